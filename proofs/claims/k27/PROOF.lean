import PyProof.Rows.All
import Wide.All
import OpenK.AllK
import Wide.FinOn
import KE.GoesEnumKw
import KE.KStateDown
import HandS.ForMost
import HandS.Exc
import HandS.ExcInit
import HandS.ExcIs
import HandS.ExcField
import HandS.TryOnly
import HandS.TryMany
import HandS.Lambda
import HandS.HotCalls
import HandS.IsInst
import HandS.SortKw
import HandS.WordsExc
import HandS.Wide
import HandS.Defaults
import HandS.HeadHook4
import HandS.HeadWalk
import HandS.RaiseMore
import HandS.ClsMeth
import KE.KExcIs
import HandS.Head0
import HandS.Head1
import HandS.Head2
import HandS.Steps
import HandS.Conv
import HandS.EndTab
import HandS.DictComp
import HandS.Strs
import HandS.TupSets
import HandS.Small
import PySem.Challenge.RW_seenenough_k27_stretches_tight_together
set_option Elab.async false
set_option linter.all false
section
set_option maxRecDepth 100000
set_option maxHeartbeats 4000000
namespace L2
open PySem PySem.Spec PyProof.Rows
/-! ### x[i] op= e over a list -/
theorem get_list {X : Cx} : PGet X (rIxL X.K) := by
  intro pins s σ H o i ov iv Q I rx ry h
  obtain ⟨p, xs, k, z, rfl, rfl, hq, he, q⟩ := h
  cases rx
  obtain ⟨t, rfl⟩ := ry
  obtain ⟨its, r, pl, hz⟩ := I.list hq
  obtain ⟨j, h1, h2, h3, h4, h5⟩ := atI_get he
  obtain ⟨w, ew, rw'⟩ := r.get h2
  have hl := r.length
  have hn := line63
  have fin : EP X pins σ Q w s := ⟨z, H, I, rw', q⟩
  by_cases h0 : 0 ≤ k
  · have hj : k.toNat = j := by
      rw [seqIndex_of h0 h5] at h1
      exact Option.some.inj h1
    exact wpAny_getItem_list pl.isList h0 (by omega) (by rw [hj]; simpa using ew) fin
  · have hj : (k + (its.toArray.size : Int)).toNat = j := by
      rw [seqIndex_neg (by omega) h4] at h1
      rw [List.size_toArray, ← hl]
      exact Option.some.inj h1
    exact wpAny_getItem_list_neg pl.isList (by omega) (by rw [List.size_toArray] <;> omega) (by omega) (by rw [hj]; simpa using ew) fin
/-! ### a, b = a list or a tuple -/
def gSeq (K : PySem.W.Frag) (n : Nat) (t : TGs) : TG := fun v σ H Q => gTup K n t v σ H Q ∨ gLst K n t v σ H Q
theorem pg_seq {X : Cx} {pos : Pos} {es : List Expr} {k : Nat} {t : TGs} {n : Nat} (hc : X.calm = true) (h : PGs X es t)
    (hn : (assignEach es X.env).length = n := by rfl) (hst : (assignEach es X.env).findIdx? (·.1) = none := by rfl) : PG X (.Tuple es k pos) (gSeq X.K n t) := by
  refine ⟨fun pins s σ H v u Q I r hw => ?_⟩
  rcases hw with hw | hw
  · exact (pg_tup hc h hn hst).run pins s σ H v u Q I r hw
  · exact (pg_lst hc h hn hst).run pins s σ H v u Q I r hw
/-! ### enumerate(list, start=k) -/
def IteS (K : PySem.W.Frag) (a : Addr) (k : Int) : It :=
  ⟨fun i H => ∃ (xs : List V) (x : V), SqL K H a xs ∧ xs[i]? = some x, fun i H v H' => ∃ T x, v = .ref T ∧ H T = none ∧ H' = upd H T (.tup [.int (k + (i : Nat)), x]) ∧ ∀ xs, SqL K H a xs → xs[i]? = some x, fun i H => ∃ xs : List V, SqL K H a xs ∧ xs.length ≤ i⟩
theorem turn_enumS {P : Program} {w : World} {K : PySem.W.Frag} {elts : List Expr} {kk : Nat} {tpos : Pos} (a e it : Addr) (k : Int) :
    Turn P w K (.Tuple elts kk tpos) (IteS K a k) [e, it] e (fun i h => (∃ old, IsEnum h e it (k + ((i : Nat) : Int)) old) ∧ h.IsListIter it a i ∧ e ≠ it) where
  mem := by simp
  obj := fun i h st b hb => by
    obtain ⟨⟨old, he⟩, ⟨o, ho, hc, hd⟩, _⟩ := st
    have e' : b = e ∨ b = it := by simpa using hb
    rcases e' with z | z
    · rw [z]; exact ⟨_, he, fun v q => nomatch q⟩
    · rw [z]; exact ⟨o, ho, fun v q => by rw [hd] at q; cases q⟩
  keep := fun i h h' st k => let ⟨⟨old, he⟩, hi, hne⟩ := st; ⟨⟨old, k e (by simp) _ he⟩, hi.at fun o q => k it (by simp) o q, hne⟩
  item := by
    intro X hP hw hK hc i pins s σ H E I hf st hg
    subst hP hw hK
    obtain ⟨⟨old, he⟩, hit, hne⟩ := st
    obtain ⟨xs, x, hq, hx⟩ := hg
    obtain ⟨its, rv, p, hz⟩ := I.list hq
    obtain ⟨u, hu, ru⟩ := rv.get hx
    have hel : e < s.heap.objs.size := Heap.lt_size he
    have hil : it < s.heap.objs.size := by obtain ⟨_, q, _⟩ := hit; exact Heap.lt_size q
    have hal : a ≠ it := fun z => by
      obtain ⟨o1, e1, c1, _⟩ := id hit
      obtain ⟨o2, e2, c2, _⟩ := id p.isList
      rw [z, e1] at e2
      have eo := Option.some.inj e2
      rw [eo, c2] at c1
      exact absurd (Value.type.inj c1) (by decide)
    have hea : e ∉ [it, a] := fun z => by
      rcases List.mem_cons.mp z with z | z
      · exact hne z
      · have z' := List.mem_singleton.mp z
        obtain ⟨o2, e2, c2, _⟩ := id p.isList
        have he' : s.heap.get? e = some _ := he
        rw [z', e2] at he'
        rw [Option.some.inj he'] at c2
        exact absurd (Value.type.inj c2) (by decide)
    refine wpAny_pyNext_enum_itemC (Draws.list (A := X.A.in1) (I.ok.hd hc) it a hal its.toArray) he ⟨hit, p.isList⟩ (by have := (List.getElem?_eq_some_iff.mp hu).1; simpa using this) hne hea fun u' h' tk hP ho hst' hT hsz hk => ?_
    obtain rfl : u' = u := by
      have hP' : its.toArray[i]? = some u' := hP
      rw [List.getElem?_toArray, hu] at hP'
      exact (Option.some.inj hP').symm
    obtain ⟨hit', _⟩ := hst'
    refine ⟨_, rfl, wpAny_letOwnedTupleGo_enum (s := { s with heap := h', toks := tk + 1 }) ho fun h'' he' sb => ?_⟩
    have hT2 : h''.get? s.heap.objs.size = some { cls := .type "tuple", data := .seq #[.int (k + i) tk, u'] } := (sb.2 _ (Nat.ne_of_gt hel)).trans hT
    have new : ObjOk X.prog X.w (upd H s.heap.objs.size (.tup [.int (k + (i : Nat)), x])) h'' s.heap.objs.size (.tup [.int (k + (i : Nat)), x]) :=
      ⟨by show 2 ≤ sizeLine; decide, [.int (k + i) tk, u'], .cons ⟨_, rfl⟩ (.cons ru .nil), ⟨_, hT2, rfl, _, rfl⟩⟩
    have I1 : Inv X pins σ (upd H s.heap.objs.size (.tup [.int (k + (i : Nat)), x])) { s with heap := h'', toks := tk + 1 } :=
      I.turnedNew (ch := [e, it]) (fun b ob hb q => (sb.2 b (fun z => hb (by simp [z]))).trans (hk b ob (fun z => hb (by simp [z])) (fun z => hb (by simp [z])) q)) hf (Nat.le_refl _) new
    refine ⟨.ref s.heap.objs.size, _, I1, rfl, ⟨_, x, rfl, I.hok.fresh (Nat.le_refl _), rfl, fun ys hy => by rw [I.list_inj hy hq]; exact hx⟩, ⟨⟨u', ?_⟩, hit'.at fun o q => (sb.2 it (Ne.symm hne)).trans q, hne⟩, fun b hb => ?_⟩
    · have e1 : k + ((i + 1 : Nat) : Int) = (k + (i : Int)) + 1 := by omega
      rw [e1]; exact he'
    · have hb' : b < s.heap.objs.size := by
        have e' : b = e ∨ b = it := by simpa using hb
        rcases e' with z | z
        · rw [z]; exact hel
        · rw [z]; exact hil
      rw [upd_ne (Nat.ne_of_lt hb')]
      exact (hf b hb).1
  done := by
    intro X hP hw hK hc i pins s σ H E I hf st hg
    subst hP hw hK
    obtain ⟨⟨old, he⟩, hit, hne⟩ := st
    obtain ⟨xs, hq, hx⟩ := hg
    obtain ⟨its, rv, p, hz⟩ := I.list hq
    obtain ⟨f0, f1, f2, f3, f4, f5⟩ := hf it (by simp)
    have hl := rv.length
    have hT : s.TypeIs (.ref e) "enumerate" := ⟨_, he, rfl⟩
    unfold pyNext
    refine wpAny_bind (wpAny_attempt (wpAny_callSpecial?_slot (name := Str.ofString "__next__") hT F.slot_enumerate_next
      (wpAny_call_entry F.slot_enumerate_next hT F.entry_enumerate_next ?_ (F.args_enumerate_next_1 _))))
    show wpAny _ _ (field (.ref e) 2 >>= _) _ _ _
    refine wpAny_bind (wpAny_field he rfl (x := .ref it) rfl ?_)
    refine wpAny_bind (wpAny_nextOf_list_end (show X.A.in1.handled = none from I.ok.hd hc) hit p.isList (by simp; omega) fun h' x eb hx' => ?_)
    obtain ⟨o, ho, hc'⟩ := hx'
    refine wpAny_bind (wpAny_isInstance (T := "StopIteration") (b := true) ⟨o, ho, hc'⟩ isSubtype_stop ?_)
    exact wpAny_pure ⟨rfl, I.turned (t' := s.toks) (fun b o hb q => eb b o hb q) f0 f1 f3 f4 f5⟩
  self := fun A i s Q E st h => let ⟨⟨_, he⟩, _⟩ := st; wpAny_pyIter_enum he h
def iEnumS (K : PySem.W.Frag) (ta tk : TA) : TI := fun σ H R => ta σ H fun vs H1 => tk σ H1 fun zs H2 => ∃ a xs k, vs = [.ref a] ∧ zs = [.int k] ∧ -(2 ^ 63) ≤ k ∧ k < 2 ^ 63 ∧ SqL K H2 a xs ∧ R (IteS K a k) H2
theorem callWith_typeK {M : Model} {A : Around} {E : Value → Shared → Prop} {s : Shared} {env : Env} {pos : Pos} {T : String} {e : Expr} {rest : List Expr} {kws : List Keyword} {Q : Value → Shared → Prop}
    (h : wpAny M A (spliced (backTo pos (starEach (e :: rest) env))) (fun vs s₁ => wpAny M A (evalAll ((backToKw pos (keywordEach kws env)).map (·.2)))
      (fun kvs s₂ => wpAny M A (call (.type T) vs (((backToKw pos (keywordEach kws env)).filterMap (·.1)).zip kvs)) Q E s₂) E s₁) E s)
    (he : backTo pos (starEach (e :: rest) env) = (false, eval e env) :: backTo pos (starEach rest env) := by rfl)
    (hplain : (backTo pos (starEach (e :: rest) env)).any (·.1) = false := by rfl)
    (hall : (backToKw pos (keywordEach kws env)).all (·.1.isSome) = true := by rfl)
    (hkw : (backToKw pos (keywordEach kws env)).any (·.1.isNone) = false := by rfl) :
    wpAny M A (callWith pos (.type T) [] (backTo pos (starEach (e :: rest) env)) (backToKw pos (keywordEach kws env))) Q E s := by
  have h2 : wpAny M A (evalArgs (.type T) true (backTo pos (starEach (e :: rest) env)) (backToKw pos (keywordEach kws env))) (fun a s₁ => wpAny M A (call (.type T) ([] ++ a.pos) a.kw) Q E s₁) E s := by
    rw [he] at h ⊢
    exact PyProof.Rows.evalArgs_kwB hall h
  unfold callWith
  refine wpAny_bind (wpAny_holding (wpAny_mono h2 (fun a s₁ h₁ => wpAny_bind (wpAny_standAt ?_)) fun _ _ x => x))
  simp only [hplain, hkw, Bool.or_false]
  refine wpAny_bind (wpAny_pure ?_)
  exact wpAny_bind (wpAny_mono h₁ (fun r s₂ hr => wpAny_bind (wpAny_holding (wpAny_point (wpAny_pure hr)))) fun _ _ x => x)
theorem pi_enumS {X : Cx} {e e2 : Expr} {ta tk : TA} {p pos tpos kpos : Pos} {elts : List Expr} {kk : Nat} (hg : Gl X "enumerate") (hm : X.mg "enumerate" = none) (ha : PA X [e] ta) (hk : PK X [⟨some (Str.ofString "start"), e2, kpos⟩] tk) (hs : starEach [e] X.env = [(false, eval e X.env)] := by rfl) :
    PI X (.Tuple elts kk tpos) (.Call (.Name "enumerate" p) [e] [⟨some (Str.ofString "start"), e2, kpos⟩] pos) (iEnumS X.K ta tk) := by
  refine ⟨fun pins s σ H R I h => ?_⟩
  refine wpAny_Call_Name_kw (ld_blt I hg hm boot_enumerate ?_)
  refine callWith_typeK (thn (ha.run pos pins s σ H _ I h) fun us s1 ⟨vs, H1, I1, r1, q1⟩ => thn (hk.run pos pins s1 σ H1 _ I1 q1) fun ws s2 ⟨zs, H2, I2, r2, q2⟩ => ?_) (by rw [hs]; rfl) (by rw [hs]; rfl)
  obtain ⟨a, xs, k, rfl, rfl, hk0, hk1, hq, q⟩ := q2
  obtain rfl := Vals.ref1 r1
  obtain ⟨w1, rfl, t, rfl⟩ := vals1 r2
  obtain ⟨its, rv, p', hz⟩ := I2.list hq
  show wpAny _ _ (call (.type "enumerate") [.ref a] [(Str.ofString "start", .int k t)]) _ _ _
  refine enum_begins_start (begins_list a its.toArray) p'.isList hk0 hk1 fun h' he hit hsz hkp => wpAny_pyIter_enum he ?_
  have I3 : Inv X pins σ H2 { s2 with heap := h' } := I2.kept (t' := s2.toks) hkp
  have he2 : IsEnum h' (s2.heap.objs.size + 1) s2.heap.objs.size (k + ((0 : Nat) : Int)) .none := by
    have : k + ((0 : Nat) : Int) = k := by omega
    rw [this]; exact he
  refine ⟨s2.heap.objs.size + 1, [s2.heap.objs.size + 1, s2.heap.objs.size], _, _, H2, rfl, I3, turn_enumS a (s2.heap.objs.size + 1) s2.heap.objs.size k, ⟨⟨.none, he2⟩, ⟨_, hit, rfl, rfl⟩, Nat.succ_ne_self _⟩, fun b hb => ?_, q⟩
  have e' : b = s2.heap.objs.size + 1 ∨ b = s2.heap.objs.size := by simpa using hb
  have hle : s2.heap.objs.size ≤ b := by
    rcases e' with z | z
    · rw [z]; exact Nat.le_add_right _ _
    · rw [z]; exact Nat.le_refl _
  exact I2.fpOk hle (I2.hok.fresh hle)
end L2
end
section
set_option maxRecDepth 100000
set_option maxHeartbeats 4000000
namespace L2
open PySem PySem.Spec PyProof.Rows
/-! ### Base.__init__(self, ..), Base an own class that has no __init__ of its own and descends from ValueError -/
structure SeTxt (K : PySem.W.Frag) (CS : Addr) : Prop where
  rd : PySem.W.readsIn K CS (.type "type") = true
  ga : PySem.W.specialIn K (.ref CS) "__getattribute__" = some (some (.builtin "type.__getattribute__"))
  at_ : PySem.W.findCls K (.ref CS) (.type "type") "__init__" = some (.val (.builtin "ValueError.__init__"))
def seB (K : PySem.W.Frag) (CS : Addr) : Bool := PySem.W.readsIn K CS (.type "type") && (decide (PySem.W.specialIn K (.ref CS) "__getattribute__" = some (some (.builtin "type.__getattribute__"))) && (match PySem.W.findCls K (.ref CS) (.type "type") "__init__" with
  | some (.val v) => decide (v = .builtin "ValueError.__init__")
  | _ => false))
theorem seB_ok {K : PySem.W.Frag} {CS : Addr} (h : seB K CS = true) : SeTxt K CS := by
  obtain ⟨h1, h2⟩ := Bool.and_eq_true_iff.mp h
  obtain ⟨h3, h4⟩ := Bool.and_eq_true_iff.mp h2
  refine ⟨h1, of_decide_eq_true h3, ?_⟩
  split at h4
  · rename_i v e
    rw [e, of_decide_eq_true h4]
  · cases h4
section
variable {X : Cx} {e : Expr} {es : List Expr} {ta : TA} {x : Str} {p1 p2 pos : Pos} {CS : Addr}
theorem pe_seinit {pl : Sem Bool} (T : SeTxt X.K CS) (hg : Gl X x) (hm : X.mg x = some (.ref CS)) (ha : PA X (e :: es) ta)
    (hdb : (x == ("__debug__" : Str)) = false := by decide)
    (hc : eval (.Call (.Attribute (.Name x p1) "__init__" p2) (e :: es) [] pos) X.env = (do
      let ov ← eval (.Name x p1) X.env
      standAt p2.atName
      let (f, first) ← holding [ov] (getMethod ov "__init__" pl)
      callWith pos f first (backTo pos (starEach (e :: es) X.env)) (backToKw pos (keywordEach [] X.env))) := by rfl)
    (he : starEach (e :: es) X.env = (false, eval e X.env) :: starEach es X.env := by rfl) (hpl : (backTo pos (starEach es X.env)).any (·.1) = false := by rfl) :
    PE X (.Call (.Attribute (.Name x p1) "__init__" p2) (e :: es) [] pos) (tVeI X.K ta) := by
  refine ⟨fun pins s σ H Q I h => ?_⟩
  refine PySem.W.methodCall_KW (ld_glob I hg hm ?_ hdb) hc
  obtain ⟨m, fr⟩ := I.fr
  refine PySem.W.method_of_cls fr I.ok.mod.kin T.ga ?_
  refine PySem.W.cls_value I.kIn T.rd T.at_ (by decide +kernel) ?_
  show wpAny _ _ (callWith pos (Value.builtin "ValueError.__init__") [] (backTo pos (starEach (e :: es) X.env)) []) _ _ _
  refine PyProof.Rows.callWith_method1 (thn (ha.run pos pins _ σ H _ (I.tok _) h) fun us s1 ⟨vs, H1, I1, r1, a, C, ws, ev, hl, T, ea, q⟩ => ?_) he hpl
  subst ev
  cases r1 with
  | @cons _ u0 _ ur ra rw' =>
    obtain rfl : u0 = Value.ref a := ra
    have hlen : ur.length ≤ sizeLine := by
      rw [← Paired.length rw', sizeLine_eq]
      omega
    exact oinit_ok T I1 ea hlen fun s' J => ⟨.non, H1, J, rfl, q⟩
end
end L2
end
section
set_option maxRecDepth 100000
set_option maxHeartbeats 4000000
namespace L2
open PySem PySem.Spec PyProof.Rows
/-! ### the exception that a context bears: its fields, its class -/
section
variable {X : Cx} {p : Addr × Obj} {cls : Value} {d : Option Addr} {C D : Addr} {n : Str} {e : Expr} {te : TE} {pos : Pos}
theorem pe_xfG (hp : p ∈ X.pn) (T : XfC X.K C) (hno : PySem.W.findIn X.K (.ref C) n = some none) (hz : Zc cls d p.2) (hf : ∃ vs, p.2.data = .fields vs) (he : PE X e te)
    (hb : attributeBase e n X.env (eval e X.env) = eval e X.env := by rfl) : PE X (.Attribute e n pos) (tXf p.1 cls d C n te) := by
  constructor
  intro pins s σ H Q I h
  refine attr_of hb (thn (he.run pins s σ H _ I h) ?_)
  rintro u s1 ⟨x, H1, I1, rx, rfl, rfl, dd, fs, v, rfl, ea, l, q⟩
  obtain rfl : u = Value.ref p.1 := rx
  have hget := (I1.pin p (List.mem_append_left _ hp)).1
  obtain ⟨vs, hdat⟩ := hf
  have hobj : ObjOk X.prog X.w H1 s1.heap dd (.xd fs) := I1.hok dd _ ea
  obtain ⟨mA, hns, hrel⟩ := hobj
  obtain ⟨od, hod, hlook⟩ := lookIn_ns hns
  obtain ⟨u2, hu2, ru2⟩ := RelO.some_of (v := v) (o := mA n) (by rw [← l]; exact hrel n)
  have at_ : PySem.W.InstAt s1.heap p.1 p.2 C (some od) := ⟨hget, hz.1, by unfold PySem.W.notCls; rw [hdat] <;> rfl, by rw [hz.2]; exact hod⟩
  exact HandSPX.exc_get I1.kIn at_ T.ga T.gg T.exC (PySem.W.findObj_own T.hdC hno rfl (by rw [hlook, hu2])) (handed_of ru2) ⟨v, H1, I1.tok _, ru2, q⟩
/-- isinstance(e, c), e the exception at p, of the class at D, its own dict at d -/
def rIsD (K : PySem.W.Frag) (D a d : Addr) : List V → Hp → VK → Prop := fun xs H Q => ∃ (c : V) (cv : Value) (b : Bool) (fs : List (Str × V)), xs = [.ref a, c] ∧ (∀ u, RelV c u → u = cv) ∧ H d = some (.xd fs) ∧ PySem.W.kitOne K (.ref D) cv = some b ∧ Q (.bl b) H
theorem call_isD {d : Addr} (hp : p ∈ X.pn) (T : ExcC X.K D) (hz : Zc (.ref D) (some d) p.2) (hf : ∃ vs, p.2.data = .fields vs) : CallR X (.builtin "isinstance") (rIsD X.K D p.1 d) := by
  intro pins s σ H xs us Q I r h
  obtain ⟨c, cv, b, fs, rfl, hcv, ed, hkit, q⟩ := h
  obtain ⟨u1, u2, rfl, r1, r2⟩ := vals2 r
  obtain rfl : u1 = Value.ref p.1 := r1
  obtain rfl : u2 = cv := hcv _ r2
  have hget := (I.pin p (List.mem_append_left _ hp)).1
  have hobj : ObjOk X.prog X.w H s.heap d (.xd fs) := I.hok d _ ed
  obtain ⟨mA, hns, hrel⟩ := hobj
  obtain ⟨od, hod, hlook⟩ := lookIn_ns hns
  obtain ⟨vs, hdat⟩ := hf
  have at_ : PySem.W.InstAt s.heap p.1 p.2 D (some od) := ⟨hget, hz.1, by unfold PySem.W.notCls; rw [hdat] <;> rfl, by rw [hz.2]; exact hod⟩
  have hcl : (PySem.W.clsIn X.K D).isSome = true := by
    obtain ⟨cd, hc, _⟩ := PySem.W.any_some T.hd
    rw [hc]; rfl
  exact PySem.W.kia_one (PySem.W.kitx_exc (gt := none) hcl T.hg T.hk T.hs T.ha T.hn T.ht T.hm) I.kIn at_ hkit (fun z => nomatch z) fun tk => ⟨.bl b, H, I.tok tk, rfl, q⟩
end
/-! ### a def that is handed the exception which an except suite holds -/
abbrev SpE := Addr → Value → Option Addr → Sp
structure FnE (P : Program) (w : World) (K : PySem.W.Frag) (mg : Str → Option Value) (base : Heap) (k : Nat) (f : Addr) (fd : FuncData) (ps : List Str) (sp : SpE) : Prop where
  len : ∀ a cls d vs H Q E, sp a cls d vs H Q E → vs.length = ps.length
  run : ∀ (A : Around) (outer : List Env) (s : Shared) (H : Hp) (args : Args) (us : List Value) (vs : List V) (Q : VK) (p : Addr × Obj) (cls : Value) (d : Option Addr), L2H.RoomH k A → Zc cls d p.2 → (∃ vs, p.2.data = .fields vs) → L2H.PinOk outer H s p →
    Env0 P w K mg base A outer s H → BindsTo s fd args (ps.zip us) → Vals vs us → sp p.1 cls d vs H Q E0 → codeAny (model P w) A (.call (.ref f) args) (CR CX0 outer P w H s Q E0) s
theorem fnE_of {P : Program} {w : World} {K : PySem.W.Frag} {mg : Str → Option Value} {base : Heap} {k : Nat} {f : Addr} {name qual : Str} {params : Arguments} {body : List Stmt} {scope : Scope} {dV kV doc pm cdv ct oc : Value} {an od : Option Addr}
    {osl : Array (Option Value)} {N ps : List Str} {sp : SpE} (lk : K.lookup f = some ⟨oc, od, .func (PySem.W.fnOf name qual params body scope dV kV doc pm an cdv ct), osl⟩) (hcd : PySem.W.codeIn K cdv qual = true) (S : FnScope N ps scope)
    (len : ∀ a cls d vs H Q E, sp a cls d vs H Q E → vs.length = ps.length)
    (hbody : ∀ (A : Around) (outer : List Env) (s : Shared) (H : Hp) (vs : List V) (Q : VK) (p : Addr × Obj) (cls : Value) (d : Option Addr), L2H.RoomH k (A.deeper (envOfC qual scope s.heap.objs.size f cdv)) → Zc cls d p.2 → (∃ vs, p.2.data = .fields vs) → sp p.1 cls d vs H Q E0 →
      ∃ t, PSs (L2H.cxH CX0 P w K mg base N qual scope f cdv A outer s H E0 p) body t ∧ t { nx := fun _ H' => Q .non H', rt := Q } (L2.start N vs) H) :
    FnE P w K mg base (k + 1) f (PySem.W.fnOf name qual params body scope dV kV doc pm an cdv ct) ps sp := by
  constructor
  · exact len
  intro A outer s H args us vs Q p cls d hr hz hf hpin e0 hb r hsp
  have hlen := len _ _ _ _ _ _ _ hsp
  have hK : K.In s.heap := e0.mod.kin.keeps fun b o e => (e0.bs b o e).1
  have hLim : s.heap.NoLimit := e0.mod.nolimit.keeps fun b o e => (e0.bs b o e).1
  have hpar : ∀ y ∈ ps.zip us, scope.names.lookup y.1 = some .local ∨ (scope.names.lookup y.1 = some .cell ∧ ((cellsFrom (s.heap.objs.size + 1) scope.names []).lookup y.1).isSome = true) := by
    rintro ⟨n, v⟩ hy
    exact (S.par n (List.of_mem_zip hy).1).imp id fun q => ⟨q, PySem.W.cellsFrom_some _ _ _ (.inl q)⟩
  refine codeAny_call_function hr.depth (hK _ _ lk) rfl S.co S.gen rfl (PySem.W.codeRec_of hK hcd) (hb _ _ _ _ ?_)
  refine wpAny_newFunctionEnv_cells S.kind hpar ?_
  rintro env rfl s1 x
  refine ⟨hLim.keeps x.toInCall.keep, codeAny_func ?_⟩
  obtain ⟨t, ht, hq⟩ := hbody A outer s H vs Q p cls d (hr.deeper _) hz hf hsp
  refine wpAny_mono (ht.run [] s1 (L2.start N vs) H _ (L2H.inv_startH S hpin e0 hlen r x) hq) ?_ fun e s' hs => hs
  intro fl s' hs
  cases fl with
  | ret u =>
    obtain ⟨v, σ', H', J, rv, q⟩ := hs
    exact ⟨v, H', J.os, J.bare, J.base, J.hok, rv, q⟩
  | next =>
    obtain ⟨σ', H', J, q⟩ := hs
    exact ⟨V.non, H', J.os, J.bare, J.base, J.hok, rfl, q⟩
  | brk => exact hs.elim fun _ z => z.elim fun _ z => z.2.elim
  | cont => exact hs.elim fun _ z => z.elim fun _ z => z.2.elim
def tCallE (sp : Sp) (t : TA) : TE := fun σ H Q => t σ H fun vs H1 => sp vs H1 Q E0
theorem pe_callE {X : Cx} {k : Nat} {f : Addr} {fd : FuncData} {ps : List Str} {sp : SpE} {x : Str} {q pos : Pos} {e : Expr} {es : List Expr} {t : TA} {p : Addr × Obj} {cls : Value} {d : Option Addr} (F : FnE X.prog X.w X.K X.mg X.base k f fd ps sp) (hr : L2H.RoomH k X.A)
    (hp : p ∈ X.pn) (hz : Zc cls d p.2) (hf : ∃ vs, p.2.data = .fields vs) (hg : Gl X x) (hm : X.mg x = some (.ref f)) (hk : PySem.W.keepIn X.K (.ref f) = true) (hb : Binds X.K fd ps [])
    (ha : PA X (e :: es) t) (hdb : (x == ("__debug__" : Str)) = false := by decide) (he : starEach (e :: es) X.env = (false, eval e X.env) :: starEach es X.env := by rfl) (hpl : (backTo pos (starEach es X.env)).any (·.1) = false := by rfl) :
    PE X (.Call (.Name x q) (e :: es) [] pos) (tCallE (sp p.1 cls d) t) := by
  constructor
  intro pins s σ H Q I h
  refine wpAny_Call_Name_kw (ld_glob I hg hm ?_ hdb)
  refine PySem.W.callWith_K (h₀ := X.base) I.ok.mod.kin hk (thn (ha.run pos pins s σ H _ I h) ?_) he hpl
  rintro us s1 ⟨vs, H1, I1, r, hsp⟩
  refine ⟨I1.kIn, ?_⟩
  have hlen : us.length = ps.length := by rw [← r.length]; exact F.len _ _ _ _ _ _ _ hsp
  have hbind := hb s1 us I1.kIn (by rw [List.append_nil]; exact hlen)
  rw [List.append_nil] at hbind
  obtain ⟨g1, g2, g3, g4, g5⟩ := I1.pin p (List.mem_append_left _ hp)
  have hpin : L2H.PinOk X.stack H1 s1 p := ⟨g1, g2, fun hm => (List.mem_cons.mp (I1.stkSub p.1 hm)).elim g3 g4, g5⟩
  refine wpAny_call (codeAny_mono (F.run X.A X.stack s1 H1 ⟨us, []⟩ us vs Q p cls d hr hz hf hpin I1.env0 hbind r hsp) ?_)
  intro r s' hq
  cases r with
  | error e => exact False.elim hq
  | ok fl =>
    cases fl with
    | ret u => exact I1.after hq
    | next => exact False.elim hq
    | brk => exact False.elim hq
    | cont => exact False.elim hq
/-! ### a def that asks that no repr is under way -/
structure FnG (P : Program) (w : World) (K : PySem.W.Frag) (mg : Str → Option Value) (base : Heap) (k : Nat) (f : Addr) (fd : FuncData) (ps : List Str) (sp : Sp) : Prop where
  len : ∀ vs H Q E, sp vs H Q E → vs.length = ps.length
  run : ∀ (A : Around) (outer : List Env) (s : Shared) (H : Hp) (args : Args) (us : List Value) (vs : List V) (Q : VK), Room k A → A.guards = some [] → Env0 P w K mg base A outer s H → BindsTo s fd args (ps.zip us) → Vals vs us → sp vs H Q E0 →
    codeAny (model P w) A (.call (.ref f) args) (CR CX0 outer P w H s Q E0) s
theorem fnG_of {P : Program} {w : World} {K : PySem.W.Frag} {mg : Str → Option Value} {base : Heap} {k : Nat} {f : Addr} {name qual : Str} {params : Arguments} {body : List Stmt} {scope : Scope} {dV kV doc pm cdv ct oc : Value} {an od : Option Addr}
    {osl : Array (Option Value)} {N ps : List Str} {sp : Sp} (lk : K.lookup f = some ⟨oc, od, .func (PySem.W.fnOf name qual params body scope dV kV doc pm an cdv ct), osl⟩) (hcd : PySem.W.codeIn K cdv qual = true) (S : FnScope N ps scope)
    (hbs : ∀ (s : Shared) (us : List Value), us.length = ps.length → BindsTo s (PySem.W.fnOf name qual params body scope dV kV doc pm an cdv ct) ⟨us, []⟩ (ps.zip us))
    (len : ∀ vs H Q E, sp vs H Q E → vs.length = ps.length)
    (hbody : ∀ (A : Around) (outer : List Env) (s : Shared) (H : Hp) (vs : List V) (Q : VK), Room k (A.deeper (envOfC qual scope s.heap.objs.size f cdv)) → (A.deeper (envOfC qual scope s.heap.objs.size f cdv)).guards = some [] → sp vs H Q E0 →
      ∃ t, PSs (cxOf CX0 P w K mg base N qual scope f cdv A outer s H E0).nox body t ∧ t { nx := fun _ H' => Q .non H', rt := Q } (L2.start N vs) H) :
    FnG P w K mg base (k + 1) f (PySem.W.fnOf name qual params body scope dV kV doc pm an cdv ct) ps sp := by
  constructor
  · exact len
  intro A outer s H args us vs Q hr hgd e0 hb r hsp
  refine LamX.run_ofS lk hcd S hr e0 hb r (len _ _ _ _ hsp) fun hr' => ?_
  obtain ⟨t, h, q⟩ := hbody A outer s H vs Q hr' (by first | exact hgd | (show A.guards = some []; exact hgd)) hsp
  exact ⟨t, h.nox, q⟩
theorem pe_callG {X : Cx} {k : Nat} {f : Addr} {fd : FuncData} {ps : List Str} {sp : Sp} {x : Str} {q pos : Pos} {e : Expr} {es : List Expr} {t : TA} (F : FnG X.prog X.w X.K X.mg X.base k f fd ps sp) (hr : Room k X.A) (hgd : X.A.guards = some [])
    (hg : Gl X x) (hm : X.mg x = some (.ref f)) (hk : PySem.W.keepIn X.K (.ref f) = true) (hb : Binds X.K fd ps [])
    (ha : PA X (e :: es) t) (hdb : (x == ("__debug__" : Str)) = false := by decide) (he : starEach (e :: es) X.env = (false, eval e X.env) :: starEach es X.env := by rfl) (hpl : (backTo pos (starEach es X.env)).any (·.1) = false := by rfl) :
    PE X (.Call (.Name x q) (e :: es) [] pos) (tCallE sp t) := by
  constructor
  intro pins s σ H Q I h
  refine wpAny_Call_Name_kw (ld_glob I hg hm ?_ hdb)
  refine PySem.W.callWith_K (h₀ := X.base) I.ok.mod.kin hk (thn (ha.run pos pins s σ H _ I h) ?_) he hpl
  rintro us s1 ⟨vs, H1, I1, r, hsp⟩
  refine ⟨I1.kIn, ?_⟩
  have hlen : us.length = ps.length := by rw [← r.length]; exact F.len _ _ _ _ hsp
  have hbind := hb s1 us I1.kIn (by rw [List.append_nil]; exact hlen)
  rw [List.append_nil] at hbind
  refine wpAny_call (codeAny_mono (F.run X.A X.stack s1 H1 ⟨us, []⟩ us vs Q hr hgd I1.env0 hbind r hsp) ?_)
  intro r s' hq
  cases r with
  | error e => exact False.elim hq
  | ok fl =>
    cases fl with
    | ret u => exact I1.after hq
    | next => exact False.elim hq
    | brk => exact False.elim hq
    | cont => exact False.elim hq
/-! ### repr of a list or a tuple of plain data -/
def rReprD (K : PySem.W.Frag) : List V → Hp → VK → Prop := fun xs H Q => ∃ (a : Addr) (d : PyData), xs = [.ref a] ∧ Dp K H (.ref a) d ∧ d.showable = true ∧ d.hasDict = false ∧ d.depth ≤ 8 ∧ d.shown.length ≤ sizeLine ∧ Q (.str d.shown) H
theorem call_reprD {X : Cx} {k : Nat} (hr : Room k X.A) (hgd : X.A.guards = some []) : CallR X (.builtin "repr") (rReprD X.K) := by
  intro pins s σ H xs us Q I r h
  obtain ⟨a, d, rfl, hd, h1, h2, h3, h4, q⟩ := h
  obtain rfl := Vals.ref1 r
  obtain ⟨as, rd⟩ := Dp.reads I d (.ref a) (.ref a) hd rfl
  have hu := hr.units
  refine repr_of_reads' rd h1 (fun z => by rw [h2] at z; cases z) hgd (by omega) (fun b o e => e) (fun h' u tk hk => ?_) h4
  exact ⟨.str d.shown, H, I.kept hk, ⟨u, rfl⟩, q⟩
end L2
end
section
set_option maxRecDepth 100000
set_option maxHeartbeats 4000000
namespace LamX
open PySem PySem.Spec PyProof.Rows L2
/-! ### x(lambda: body, e2): the def takes the lambda and one value -/
/-- the callee's body for any reading tl of the lambda; call(): its first parameter -/
def Gives2 (X : Cx) (Ng : List Str) (x : Str) (sg : Scope) (g : Addr) (cdg : Value) (bg : List Stmt) (a : Str) (q : Str) (TT : (XK → Hp → VK → Prop) → (Hp → Prop) → V → Hp → VK → Prop) : Prop :=
  ∀ (f c' : Addr) (s : Shared) (H : Hp) (Q : VK) (v2 : V) (tl : XK → Hp → VK → Prop),
    (∀ (W : WX) (pn : List (Addr × Obj)) (xe : Value → Shared → Prop) (E : XK) (p1 p2 : Pos), Takes ((cxOf C8.CX0 X.prog X.w X.K X.mg X.base Ng x sg g cdg X.A X.stack s H C8.E0).tr pn xe) W → (∀ cls d σ' H', E cls d H' → W cls d σ' H') →
      PE ((cxOf C8.CX0 X.prog X.w X.K X.mg X.base Ng x sg g cdg X.A X.stack s H C8.E0).tr pn xe) (.Call (.Name a p1) [] [] p2) (fun σZ HZ Q => σZ[0]? = some (some (.ref f)) ∧ HZ c' = some (CodeO c' q) ∧ tl E HZ Q)) →
    H c' = some (CodeO c' q) → TT tl (fun H' => H' c' = some (CodeO c' q)) v2 H Q →
    ∃ t, PSs (cxOf C8.CX0 X.prog X.w X.K X.mg X.base Ng x sg g cdg X.A X.stack s H C8.E0).nox bg t ∧ t { nx := fun _ H' => Q .non H', rt := Q } (L2.start Ng [.ref f, v2]) H
def tLam2 (T : List (Addr × Str)) (q : Str) (TT : (XK → Hp → VK → Prop) → (Hp → Prop) → V → Hp → VK → Prop) (t : XK → TE) (te : TE) : TE := fun σ H Q => Tabs T H ∧ ∀ H1 c', ExtN H H1 → Tabs T H1 → H1 c' = some (CodeO c' q) →
  te σ H1 fun x H2 => ∃ v2, [x] = [v2] ∧ H2 c' = some (CodeO c' q) ∧ TT (fun E H' Q' => t E σ H' Q') (fun H' => H' c' = some (CodeO c' q)) v2 H2 Q
end LamX
end
section
set_option maxRecDepth 100000
set_option maxHeartbeats 4000000
/-! ### checks of exception classes in the written part -/
namespace L2
open PySem PySem.Spec PyProof.Rows
/-- the class at C descends from ValueError by own classes, its __init__ is the def at f -/
def oexB (K : PySem.W.Frag) (C : Addr) : Bool := (match K.lookup C with
  | some ⟨.type t, _, .cls cd, sl⟩ => decide (t = "type") && (match cd.mro, sl.toList with
    | .ref C' :: bm, [_, _, _, _, some (.builtin n), _] => decide (C' = C) && (decide (n = "ValueError.__new__") && (!cd.hasDel && (cd.hasDict && PySem.HandSPX.refsVE bm)))
    | _, _ => false)
  | _ => false) && (decide (PySem.W.findIn K (.ref C) "__setattr__" = some (some (.builtin "object.__setattr__"))) && (decide (PySem.W.subIn K (.ref C) (.type "BaseException") = some true) && (decide (PySem.W.typeIn K (.ref C) = some (.type "type")) && PySem.W.keepIn K (.ref C))))
theorem and2 {a b : Bool} (h : (a && b) = true) : a = true ∧ b = true := Bool.and_eq_true_iff.mp h
theorem oexB_ok {K : PySem.W.Frag} {C : Addr} (h : oexB K C = true) : OexC K C := by
  obtain ⟨h1, h⟩ := and2 h
  obtain ⟨h2, h⟩ := and2 h
  obtain ⟨h3, h⟩ := and2 h
  obtain ⟨h4, h5⟩ := and2 h
  refine ⟨?_, of_decide_eq_true h2, of_decide_eq_true h3, of_decide_eq_true h4, h5⟩
  split at h1
  · rename_i t dd cd sl ho
    obtain ⟨ht, h1⟩ := and2 h1
    have ht := of_decide_eq_true ht
    subst ht
    split at h1
    · rename_i C' bm k0 k1 k2 k3 n k5 hm hs
      obtain ⟨e0, h1⟩ := and2 h1
      obtain ⟨e1, h1⟩ := and2 h1
      obtain ⟨e2, h1⟩ := and2 h1
      obtain ⟨e3, h1⟩ := and2 h1
      obtain ⟨e4, e5⟩ := and2 h1
      have g1 := of_decide_eq_true e1
      have g2 := of_decide_eq_true e2
      have g3 : cd.hasDel = false := by
        cases q : cd.hasDel with
        | false => rfl
        | true =>
          rw [q] at e3
          cases e3
      clear h1 e0 e1 e2 e3 h
      subst g1 g2
      obtain ⟨nm, bs, mro, ns, qn, hd, sn, sub, ab, col, del⟩ := cd
      dsimp only at hm g3 e4
      subst hm g3 e4
      have hsl : sl = #[k0, k1, k2, k3, some (.builtin "ValueError.__new__"), k5] := by
        obtain ⟨l⟩ := sl
        simp only at hs
        rw [hs]
      subst hsl
      exact ⟨_, _, _, _, bm, _, _, _, _, _, _, _, _, _, _, ho, e5⟩
    · cases h1
  · cases h1
/-- .. and asked by isinstance -/
def excCB (K : PySem.W.Frag) (D : Addr) : Bool := decide (PySem.W.findIn K (.ref D) "__getattribute__" = some (some (.builtin "BaseException.__getattribute__"))) && (decide (PySem.W.findIn K (.ref D) "__getattr__" = some none) &&
  (decide (PySem.W.subIn K (.ref D) (.type "BaseException") = some true) && (PySem.W.hasDictIn K D && (decide (PySem.W.findIn K (.ref D) "__class__" = some (some (.builtin "object.__class__"))) &&
  (decide (PySem.W.specialIn K (.builtin "object.__class__") "__get__" = some (some (.builtin "getset_descriptor.__get__"))) && (decide (PySem.W.takesIn K (.builtin "object.__class__") = some true) && decide (PySem.W.mroIn K D (.type "object") = some true)))))))
theorem excCB_ok {K : PySem.W.Frag} {D : Addr} (h : excCB K D = true) : ExcC K D := by
  obtain ⟨h1, h⟩ := and2 h
  obtain ⟨h2, h⟩ := and2 h
  obtain ⟨h3, h⟩ := and2 h
  obtain ⟨h4, h⟩ := and2 h
  obtain ⟨h5, h⟩ := and2 h
  obtain ⟨h6, h⟩ := and2 h
  obtain ⟨h7, h8⟩ := and2 h
  exact ⟨of_decide_eq_true h1, of_decide_eq_true h2, of_decide_eq_true h3, h4, of_decide_eq_true h5, of_decide_eq_true h6, of_decide_eq_true h7, of_decide_eq_true h8⟩
/-- the whole of a class that is raised: its __init__ at f, what its instances' fields ask -/
structure ExT (K : PySem.W.Frag) (C f : Addr) : Prop where
  oex : OexC K C
  init : PySem.W.findIn K (.ref C) "__init__" = some (some (.ref f))
  fn : PySem.W.typeIn K (.ref f) = some (.type "function")
  xf : XfC K C
  exc : ExcC K C
def exTB (K : PySem.W.Frag) (C f : Addr) : Bool := oexB K C && (decide (PySem.W.findIn K (.ref C) "__init__" = some (some (.ref f))) && (decide (PySem.W.typeIn K (.ref f) = some (.type "function")) && (xfB K C && excCB K C)))
theorem exTB_ok {K : PySem.W.Frag} {C f : Addr} (h : exTB K C f = true) : ExT K C f := by
  obtain ⟨h1, h⟩ := and2 h
  obtain ⟨h2, h⟩ := and2 h
  obtain ⟨h3, h⟩ := and2 h
  obtain ⟨h4, h5⟩ := and2 h
  exact ⟨oexB_ok h1, of_decide_eq_true h2, of_decide_eq_true h3, xfB_ok h4, excCB_ok h5⟩
abbrev FnP (K : PySem.W.Frag) (x : Str) (st : Stmt) (f : Addr) (fd : FuncData) : Prop := FunD K x x (defArgs st) (defBody st) (defScope st) [] [] f fd
abbrev FnM (K : PySem.W.Frag) (x q : Str) (st : Stmt) (f : Addr) (fd : FuncData) : Prop := FunD K x q (defArgs st) (defBody st) (defScope st) [] [] f fd
/-- a def of the top, known by its name, keeps the promise sp -/
structure Ok (P : Program) (w : World) (K : PySem.W.Frag) (mg : Str → Option Value) (base : Heap) (CX : CXT) (k : Nat) (x : Str) (ps : List Str) (sp : Sp) : Prop where
  ex : ∃ f fd, FnOk P w K mg base CX k f fd ps sp ∧ mg x = some (.ref f) ∧ PySem.W.keepIn K (.ref f) = true ∧ Binds K fd ps []
section
variable {P : Program} {w : World} {K : PySem.W.Frag} {mg : Str → Option Value} {base : Heap} {CX : CXT} {k j : Nat} {x : Str} {ps N : List Str} {sp sp' : Sp} {st : Stmt}
theorem Ok.mono (o : Ok P w K mg base CX j x ps sp) (h : j ≤ k) : Ok P w K mg base CX k x ps sp := by
  obtain ⟨f, fd, h1, h2⟩ := o.ex
  exact ⟨f, fd, h1.mono h, h2⟩
theorem Ok.imp (o : Ok P w K mg base CX k x ps sp) (h : ∀ vs H Q E, sp' vs H Q E → sp vs H Q E) : Ok P w K mg base CX k x ps sp' := by
  obtain ⟨f, fd, h1, h2⟩ := o.ex
  exact ⟨f, fd, h1.imp h, h2⟩
/-- a promise that is never asked -/
theorem Ok.never (e : ∃ f fd, FnP K x st f fd ∧ mg x = some (.ref f))
    (hb : ∀ (kV doc pm : Value) (an : Option Addr) (cdv ct : Value) (us : List Value), us.length = ps.length → bindArgs (PySem.W.fnOf x x (defArgs st) (defBody st) (defScope st) .none kV doc pm an cdv ct) ⟨us, []⟩ = pure (ps.zip us)) : Ok P w K mg base CX k x ps (fun _ _ _ _ => False) := by
  obtain ⟨f, fd, F, g⟩ := e
  exact ⟨f, fd, ⟨fun _ _ _ _ z => z.elim, fun _ _ _ _ _ _ _ _ _ _ _ _ _ z => z.elim⟩, g, F.kp, F.bindsN hb⟩
/-- a def that lets nothing out -/
theorem Ok.def0 (e : ∃ f fd, FnP K x st f fd ∧ mg x = some (.ref f))
    (hb : ∀ (kV doc pm : Value) (an : Option Addr) (cdv ct : Value) (us : List Value), us.length = ps.length → bindArgs (PySem.W.fnOf x x (defArgs st) (defBody st) (defScope st) .none kV doc pm an cdv ct) ⟨us, []⟩ = pure (ps.zip us))
    (S : FnScope N ps (defScope st)) (len : ∀ vs H Q E, sp vs H Q E → vs.length = ps.length)
    (hbody : ∀ (f : Addr) (cdv : Value) (A : Around) (outer : List Env) (s : Shared) (H : Hp) (vs : List V) (Q : VK) (E : XK), Room k (A.deeper (envOfC x (defScope st) s.heap.objs.size f cdv)) → sp vs H Q E →
      ∃ t, PSs (cxOf CX0 P w K mg base N x (defScope st) f cdv A outer s H E).nox (defBody st) t ∧ t { nx := fun _ H' => Q .non H', rt := Q } (start N vs) H) : Ok P w K mg base CX0 (k + 1) x ps sp := by
  obtain ⟨f, fd, F, g⟩ := e
  refine ⟨f, fd, F.ok S len fun cdv A outer s H vs Q E hr h => ?_, g, F.kp, F.bindsN hb⟩
  obtain ⟨t, h1, h2⟩ := hbody f cdv A outer s H vs Q E hr h
  exact ⟨t, h1.nox, h2⟩
/-- a def that may raise -/
theorem Ok.defX (e : ∃ f fd, FnP K x st f fd ∧ mg x = some (.ref f))
    (hb : ∀ (kV doc pm : Value) (an : Option Addr) (cdv ct : Value) (us : List Value), us.length = ps.length → bindArgs (PySem.W.fnOf x x (defArgs st) (defBody st) (defScope st) .none kV doc pm an cdv ct) ⟨us, []⟩ = pure (ps.zip us))
    (S : FnScope N ps (defScope st)) (len : ∀ vs H Q E, sp vs H Q E → vs.length = ps.length)
    (hbody : ∀ (f : Addr) (cdv : Value) (A : Around) (outer : List Env) (s : Shared) (H : Hp) (vs : List V) (Q : VK) (E : XK), Room k (A.deeper (envOfC x (defScope st) s.heap.objs.size f cdv)) → sp vs H Q E →
      Takes (cxOf (L2.CX P w) P w K mg base N x (defScope st) f cdv A outer s H E) (fun cls d _ H => E cls d H) →
      ∃ t, PSs (cxOf (L2.CX P w) P w K mg base N x (defScope st) f cdv A outer s H E) (defBody st) t ∧ t { nx := fun _ H' => Q .non H', rt := Q } (start N vs) H) : Ok P w K mg base (L2.CX P w) (k + 1) x ps sp := by
  obtain ⟨f, fd, F, g⟩ := e
  refine ⟨f, fd, F.ok S len fun cdv A outer s H vs Q E hr h => ?_, g, F.kp, F.bindsN hb⟩
  exact hbody f cdv A outer s H vs Q E hr h (takes_of rfl rfl rfl rfl)
end
section
variable {X : Cx} {CX : CXT} {k : Nat} {x : Str} {ps : List Str} {sp : Sp} {E : XK} {p pos : Pos} {e : Expr} {es : List Expr} {t : TA}
theorem pe_ok (O : Ok X.prog X.w X.K X.mg X.base CX k x ps sp) (hr : Room k X.A) (hg : Gl X x) (hx : Passes CX X E) (ha : PA X (e :: es) t)
    (hdb : (x == ("__debug__" : Str)) = false := by decide) (he : starEach (e :: es) X.env = (false, eval e X.env) :: starEach es X.env := by rfl) (hpl : (backTo pos (starEach es X.env)).any (·.1) = false := by rfl) :
    PE X (.Call (.Name x p) (e :: es) [] pos) (tCall sp [] E t) := by
  obtain ⟨f, fd, F, hm, hk, hb⟩ := O.ex
  exact pe_call F hr hg hm hk hb .nil hx ha hdb he hpl
/-- what is raised is wished for at the caller's slots -/
theorem pe_okS {E : St → XK} (O : Ok X.prog X.w X.K X.mg X.base CX k x ps sp) (hr : Room k X.A) (hg : Gl X x) (hx : ∀ σ, PassesAt CX X σ (E σ)) (ha : PA X (e :: es) t)
    (hdb : (x == ("__debug__" : Str)) = false := by decide) (he : starEach (e :: es) X.env = (false, eval e X.env) :: starEach es X.env := by rfl) (hpl : (backTo pos (starEach es X.env)).any (·.1) = false := by rfl) :
    PE X (.Call (.Name x p) (e :: es) [] pos) (tCallS sp E t) := by
  obtain ⟨f, fd, F, hm, hk, hb⟩ := O.ex
  exact pe_callS F hr hg hm hk hb hx ha hdb he hpl
end
/-- an own exception class, known by its name, whose __init__ keeps sp -/
structure XOk (P : Program) (w : World) (K : PySem.W.Frag) (mg : Str → Option Value) (base : Heap) (k : Nat) (x : Str) (C : Addr) (ps : List Str) (sp : Sp) : Prop where
  ex : ∃ f fd, ExT K C f ∧ FnOk P w K mg base CX0 k f fd ps sp ∧ mg x = some (.ref C) ∧ Binds K fd ps []
theorem pmk_x {X : Cx} {k : Nat} {x : Str} {C : Addr} {ps : List Str} {sp : Sp} {p pos : Pos} {e : Expr} {es : List Expr} {ta : TA} (O : XOk X.prog X.w X.K X.mg X.base k x C ps sp) (hr : Room (k + 1) X.A) (hg : Gl X x) (ha : PA X (e :: es) ta)
    (hdb : (x == ("__debug__" : Str)) = false := by decide) (he : starEach (e :: es) X.env = (false, eval e X.env) :: starEach es X.env := by rfl) (hpl : (backTo pos (starEach es X.env)).any (·.1) = false := by rfl) :
    PMk X (.Call (.Name x p) (e :: es) [] pos) (tMkO C sp [] ta) := by
  obtain ⟨f, fd, T, F, hm, hb⟩ := O.ex
  exact pmk_oex T.oex T.init T.fn F hr hb .nil pass0 hg hm ha hdb he hpl
end L2
end
section
set_option maxRecDepth 100000
set_option maxHeartbeats 4000000
/-! ### the head's facts, the interpreter's own statics among what is looked at -/
namespace He
open PySem PySem.Spec PyProof.Rows L2
def asS (g : Addr → Option Obj) (n : Nat) : List Addr := PySem.cStatics :: asD g n
def obsS (n : Nat) (fa : List Fa) (fn : List DefD) (ts : List Tab) (tf : List Defn) (ex : PySem.W.Frag → Bool) (g : Addr → Option Obj) : AlX := (obsT fa fn ts (frT g (asS g n)), ex (frT g (asS g n)) && tabsB g tf (frT g (asS g n)))
theorem saysS_of {n : Nat} {fa : List Fa} {fn : List DefD} {ts : List Tab} {tf : List Defn} {ex : PySem.W.Frag → Bool} {w : World} {h : Heap} (e : obsS n fa fn ts tf ex h.get? = valX fn ts w) : SaysX fa fn ts tf ex w h (frT h.get? (asS h.get? n)) := by
  have e1 := congrArg Prod.fst e
  have e2 : (ex (frT h.get? (asS h.get? n)) && tabsB h.get? tf (frT h.get? (asS h.get? n))) = true := congrArg Prod.snd e
  obtain ⟨hx, ht⟩ := ba e2
  have tab : ∀ p ∈ tf, PySem.W.codeHdIn (frT h.get? (asS h.get? n)) (cT (frT h.get? (asS h.get? n)) p).1 (cT (frT h.get? (asS h.get? n)) p).2 = true ∧ ∃ o, h.get? (cT (frT h.get? (asS h.get? n)) p).2 = some o ∧ emptyTab o = true := by
    intro p hp
    obtain ⟨c1, c2⟩ := ba (List.all_eq_true.mp ht p hp)
    refine ⟨c1, ?_⟩
    revert c2
    cases h.get? (cT (frT h.get? (asS h.get? n)) p).2 with
    | none => exact fun z => by cases z
    | some o => exact fun z => ⟨o, rfl, z⟩
  exact {
    t := e1
    more := hx
    hd := fun p hp => (tab p hp).1
    out := fun p hp => let ⟨_, o, q, z⟩ := tab p hp; frT_none q z
    empty := fun p hp => let ⟨_, o, q, z⟩ := tab p hp; by rw [q, emptyTab_eq z] }
def hookS (n : Nat) (fa : List Fa) (fn : List DefD) (ts : List Tab) (tf : List Defn) (ex : PySem.W.Frag → Bool) : PySem.W.Hook where
  α := AlX
  obs := fun s => obsS n fa fn ts tf ex s.heap.get?
  val := fun w => valX fn ts w
  says := fun w h => ∃ K : PySem.W.Frag, K.In h ∧ SaysX fa fn ts tf ex w h K
  of := fun _ _ e => ⟨_, frT_in, saysS_of e⟩
  keeps := fun _ _ _ ⟨K, hK, c⟩ k => ⟨K, PySem.W.Frag.In.keeps hK k, ⟨c.t, c.more, c.hd, c.out, fun p hp => k _ _ (c.empty p hp)⟩⟩
theorem obsS_eq {n : Nat} {fa : List Fa} {fn : List DefD} {ts : List Tab} {tf : List Defn} {ex : PySem.W.Frag → Bool} {g : Addr → Option Obj} {s : Shared} (h : ∀ a, g a = s.heap.get? a) : obsS n fa fn ts tf ex g = (hookS n fa fn ts tf ex).obs s := by
  obtain rfl : g = s.heap.get? := funext h
  rfl
end He
end
section
set_option maxRecDepth 100000
set_option maxHeartbeats 4000000
namespace K27
open PySem PySem.Spec PyProof.Rows L2
def top (i : Nat) : Stmt := PySem.Challenge.pw_seenenough_k27_stretches_tight_together.main.body.getD i (.Pass ⟨0, 0, 0, 0⟩)
abbrev s_check_one_can : Stmt := top 20
theorem sc_check_one_can : FnScope ["almanac", "rains", "at"] ["almanac"] (defScope s_check_one_can) := ⟨rfl, rfl, rfl, by decide +kernel, rfl, by decide +kernel, by decide +kernel⟩
abbrev s_check_weather : Stmt := top 21
theorem sc_check_weather : FnScope ["almanac", "weather", "wrong"] ["almanac", "weather"] (defScope s_check_weather) := ⟨rfl, rfl, rfl, by decide +kernel, rfl, by decide +kernel, by decide +kernel⟩
abbrev s_all_stretches : Stmt := top 22
theorem sc_all_stretches : FnScope ["days", "b", "a"] ["days"] (defScope s_all_stretches) := ⟨rfl, rfl, rfl, by decide +kernel, rfl, by decide +kernel, by decide +kernel⟩
abbrev s_span_counts : Stmt := top 23
theorem sc_span_counts : FnScope ["almanac", "days", "rains", "counts", "a", "ending", "rain", "total", "b"] ["almanac"] (defScope s_span_counts) := ⟨rfl, rfl, rfl, by decide +kernel, rfl, by decide +kernel, by decide +kernel⟩
abbrev s_fall_counts : Stmt := top 24
theorem sc_fall_counts : FnScope ["weather", "total", "fallen", "report", "fall"] ["weather"] (defScope s_fall_counts) := ⟨rfl, rfl, rfl, by decide +kernel, rfl, by decide +kernel, by decide +kernel⟩
abbrev s_key_stretches : Stmt := top 25
theorem sc_key_stretches : FnScope ["almanac", "days", "counts", "found", "a", "b", "earlier", "later"] ["almanac"] (defScope s_key_stretches) := ⟨rfl, rfl, rfl, by decide +kernel, rfl, by decide +kernel, by decide +kernel⟩
abbrev s_tight_among : Stmt := top 26
theorem sc_tight_among : FnScope ["weather", "counts", "stretches", "fallen", "a", "b"] ["weather", "counts", "stretches"] (defScope s_tight_among) := ⟨rfl, rfl, rfl, by decide +kernel, rfl, by decide +kernel, by decide +kernel⟩
abbrev s_check : Stmt := top 13
theorem sc_check : FnScope ["what", "number"] ["what", "number"] (defScope s_check) := ⟨rfl, rfl, rfl, by decide +kernel, rfl, by decide +kernel, by decide +kernel⟩
abbrev s_check_each : Stmt := top 14
theorem sc_check_each : FnScope ["what", "numbers", "number"] ["what", "numbers"] (defScope s_check_each) := ⟨rfl, rfl, rfl, by decide +kernel, rfl, by decide +kernel, by decide +kernel⟩
abbrev s_check_within : Stmt := top 15
theorem sc_check_within : FnScope ["what", "number", "bound"] ["what", "number", "bound"] (defScope s_check_within) := ⟨rfl, rfl, rfl, by decide +kernel, rfl, by decide +kernel, by decide +kernel⟩
abbrev s_report_ascends : Stmt := top 39
theorem sc_report_ascends : FnScope ["report", "before", "rain", "cans"] ["report"] (defScope s_report_ascends) := ⟨rfl, rfl, rfl, by decide +kernel, rfl, by decide +kernel, by decide +kernel⟩
abbrev s_check_stretch : Stmt := top 29
theorem sc_check_stretch : FnScope ["stretch", "days", "a", "b"] ["stretch", "days"] (defScope s_check_stretch) := ⟨rfl, rfl, rfl, by decide +kernel, rfl, by decide +kernel, by decide +kernel⟩
abbrev s_free_day : Stmt := top 30
theorem sc_free_day : FnScope ["rain", "stretches", "days", "first", "last", "a", "b", "others", "day"] ["rain", "stretches", "days"] (defScope s_free_day) := ⟨rfl, rfl, rfl, by decide +kernel, rfl, by decide +kernel, by decide +kernel⟩
abbrev s_lot_places : Stmt := top 31
theorem sc_lot_places : FnScope ["almanac", "stretches", "places", "rains", "at", "day"] ["almanac", "stretches"] (defScope s_lot_places) := ⟨rfl, rfl, rfl, by decide +kernel, rfl, by decide +kernel, by decide +kernel⟩
abbrev s_placed_weather : Stmt := top 32
theorem sc_placed_weather : FnScope ["days", "places", "day", "weather", "at"] ["days", "places"] (defScope s_placed_weather) := ⟨rfl, rfl, rfl, by decide +kernel, rfl, by decide +kernel, by decide +kernel⟩
abbrev s_lot_together : Stmt := top 33
theorem sc_lot_together : FnScope ["almanac", "stretches", "stretch", "covered", "places"] ["almanac", "stretches"] (defScope s_lot_together) := ⟨rfl, rfl, rfl, by decide +kernel, rfl, by decide +kernel, by decide +kernel⟩
abbrev s_first_undecided : Stmt := top 34
theorem sc_first_undecided : FnScope ["almanac", "weathers", "weather", "counts", "left", "stretch", "tight"] ["almanac", "weathers"] (defScope s_first_undecided) := ⟨rfl, rfl, rfl, by decide +kernel, rfl, by decide +kernel, by decide +kernel⟩
abbrev s_slipping_garden : Stmt := top 35
theorem sc_slipping_garden : FnScope ["almanac", "stretch", "a", "b", "many"] ["almanac", "stretch"] (defScope s_slipping_garden) := ⟨rfl, rfl, rfl, by decide +kernel, rfl, by decide +kernel, by decide +kernel⟩
abbrev s__law_draw_spans : Stmt := top 49
theorem sc__law_draw_spans : FnScope ["stock", "days", "many", "limit", "spans", "total", "turn", "first", "last", "kind", "ways"] ["stock", "days", "many", "limit"] (defScope s__law_draw_spans) := ⟨rfl, rfl, rfl, by decide +kernel, rfl, by decide +kernel, by decide +kernel⟩
abbrev s__law_can_rains : Stmt := top 50
theorem sc__law_can_rains : FnScope ["spans", "span"] ["spans"] (defScope s__law_can_rains) := ⟨rfl, rfl, rfl, by decide +kernel, rfl, by decide +kernel, by decide +kernel⟩
abbrev s__law_stretches : Stmt := top 51
theorem sc__law_stretches : FnScope ["days", "found", "b", "a"] ["days"] (defScope s__law_stretches) := ⟨rfl, rfl, rfl, by decide +kernel, rfl, by decide +kernel, by decide +kernel⟩
abbrev s__law_spans_in : Stmt := top 52
theorem sc__law_spans_in : FnScope ["spans", "a", "b", "span"] ["spans", "a", "b"] (defScope s__law_spans_in) := ⟨rfl, rfl, rfl, by decide +kernel, rfl, by decide +kernel, by decide +kernel⟩
abbrev s__law_span_table : Stmt := top 53
theorem sc__law_span_table : FnScope ["days", "spans", "table", "a", "b"] ["days", "spans"] (defScope s__law_span_table) := ⟨rfl, rfl, rfl, by decide +kernel, rfl, by decide +kernel, by decide +kernel⟩
abbrev s__law_key_list : Stmt := top 54
theorem sc__law_key_list : FnScope ["days", "table", "found", "a", "b"] ["days", "table"] (defScope s__law_key_list) := ⟨rfl, rfl, rfl, by decide +kernel, rfl, by decide +kernel, by decide +kernel⟩
abbrev s__law_is_tight : Stmt := top 55
theorem sc__law_is_tight : FnScope ["spans", "weather", "a", "b", "day", "fall", "span"] ["spans", "weather", "a", "b"] (defScope s__law_is_tight) := ⟨rfl, rfl, rfl, by decide +kernel, rfl, by decide +kernel, by decide +kernel⟩
abbrev s__law_first_wrong : Stmt := top 58
theorem sc__law_first_wrong : FnScope ["days", "rains", "weather", "gone", "day", "before", "fall", "number", "rain", "at"] ["days", "rains", "weather"] (defScope s__law_first_wrong) := ⟨rfl, rfl, rfl, by decide +kernel, rfl, by decide +kernel, by decide +kernel⟩
abbrev s__law_bent_weather : Stmt := top 59
theorem sc__law_bent_weather : FnScope ["stock", "weather", "report", "bent", "kind", "day", "other", "fall", "place", "at"] ["stock", "weather"] (defScope s__law_bent_weather) := ⟨rfl, rfl, rfl, by decide +kernel, rfl, by decide +kernel, by decide +kernel⟩
abbrev s__law_covered : Stmt := top 56
theorem sc__law_covered : FnScope ["days", "span", "lot", "stretch", "others", "day"] ["days", "span", "lot"] (defScope s__law_covered) := ⟨rfl, rfl, rfl, by decide +kernel, rfl, by decide +kernel, by decide +kernel⟩
abbrev s__law_first_covered : Stmt := top 57
theorem sc__law_first_covered : FnScope ["days", "spans", "lot", "at"] ["days", "spans", "lot"] (defScope s__law_first_covered) := ⟨rfl, rfl, rfl, by decide +kernel, rfl, by decide +kernel, by decide +kernel⟩
abbrev s__law_undecided : Stmt := top 60
theorem sc__law_undecided : FnScope ["spans", "keys", "weathers", "a", "b", "weather"] ["spans", "keys", "weathers"] (defScope s__law_undecided) := ⟨rfl, rfl, rfl, by decide +kernel, rfl, by decide +kernel, by decide +kernel⟩
abbrev s__law_are_weathers : Stmt := top 61
theorem sc__law_are_weathers : FnScope ["days", "rains", "weathers", "weather", "report", "fall"] ["days", "rains", "weathers"] (defScope s__law_are_weathers) := ⟨rfl, rfl, rfl, by decide +kernel, rfl, by decide +kernel, by decide +kernel⟩
abbrev s__law_whole : Stmt := top 71
theorem sc__law_whole : FnScope ["thing"] ["thing"] (defScope s__law_whole) := ⟨rfl, rfl, rfl, by decide +kernel, rfl, by decide +kernel, by decide +kernel⟩
abbrev s__law_caught : Stmt := top 62
theorem sc__law_caught : FnScope ["raised", "found"] ["raised"] (defScope s__law_caught) := ⟨rfl, rfl, rfl, by decide +kernel, rfl, by decide +kernel, by decide +kernel⟩
abbrev s__law_stock : Stmt := top 63
theorem sc__law_stock : FnScope ["script", "at", "one", "cell", "size", "small"] ["script", "at"] (defScope s__law_stock) := ⟨rfl, rfl, rfl, by decide +kernel, rfl, by decide +kernel, by decide +kernel⟩
abbrev s__law_draw : Stmt := top 64
theorem sc__law_draw : FnScope ["stock", "many", "found"] ["stock", "many"] (defScope s__law_draw) := ⟨rfl, rfl, rfl, by decide +kernel, rfl, by decide +kernel, by decide +kernel⟩
abbrev s__law_mix : Stmt := top 65
theorem sc__law_mix : FnScope ["stock", "things", "left", "mixed", "turn"] ["stock", "things"] (defScope s__law_mix) := ⟨rfl, rfl, rfl, by decide +kernel, rfl, by decide +kernel, by decide +kernel⟩
abbrev s__law_matches : Stmt := top 66
theorem sc__law_matches : FnScope ["answer", "due", "key", "at"] ["answer", "due"] (defScope s__law_matches) := ⟨rfl, rfl, rfl, by decide +kernel, rfl, by decide +kernel, by decide +kernel⟩
abbrev s__law_deep : Stmt := top 67
theorem sc__law_deep : FnScope ["thing", "one"] ["thing"] (defScope s__law_deep) := ⟨rfl, rfl, rfl, by decide +kernel, rfl, by decide +kernel, by decide +kernel⟩
abbrev s__law_options : Stmt := top 68
theorem sc__law_options : FnScope ["days", "rain", "thin", "found", "cans", "day", "one"] ["days", "rain", "thin"] (defScope s__law_options) := ⟨rfl, rfl, rfl, by decide +kernel, rfl, by decide +kernel, by decide +kernel⟩
abbrev s__law_weather : Stmt := top 69
theorem sc__law_weather : FnScope ["days", "falls", "day", "reports", "at"] ["days", "falls"] (defScope s__law_weather) := ⟨rfl, rfl, rfl, by decide +kernel, rfl, by decide +kernel, by decide +kernel⟩
abbrev s__law_weathers : Stmt := top 70
theorem sc__law_weathers : FnScope ["days", "rains", "thin", "found", "rain", "more", "falls", "fall"] ["days", "rains", "thin"] (defScope s__law_weathers) := ⟨rfl, rfl, rfl, by decide +kernel, rfl, by decide +kernel, by decide +kernel⟩
abbrev s__law_ask_lot : Stmt := top 72
theorem sc__law_ask_lot : FnScope ["almanac", "lot", "raised"] ["almanac", "lot"] (defScope s__law_ask_lot) := ⟨rfl, rfl, rfl, by decide +kernel, rfl, by decide +kernel, by decide +kernel⟩
abbrev s__law_ask_undecided : Stmt := top 73
theorem sc__law_ask_undecided : FnScope ["almanac", "weathers", "raised"] ["almanac", "weathers"] (defScope s__law_ask_undecided) := ⟨rfl, rfl, rfl, by decide +kernel, rfl, by decide +kernel, by decide +kernel⟩
abbrev s__law_ask_slips : Stmt := top 74
theorem sc__law_ask_slips : FnScope ["almanac", "stretch", "raised"] ["almanac", "stretch"] (defScope s__law_ask_slips) := ⟨rfl, rfl, rfl, by decide +kernel, rfl, by decide +kernel, by decide +kernel⟩
abbrev s__law_lot_right : Stmt := top 75
theorem sc__law_lot_right : FnScope ["almanac", "days", "spans", "rows", "lot", "given", "told", "row", "stretch", "possible", "covered"] ["almanac", "days", "spans", "rows", "lot"] (defScope s__law_lot_right) := ⟨rfl, rfl, rfl, by decide +kernel, rfl, by decide +kernel, by decide +kernel⟩
abbrev s__law_lots : Stmt := top 76
theorem sc__law_lots : FnScope ["stock", "days", "stretches", "one", "lots", "at", "after", "third", "turn", "again"] ["stock", "days"] (defScope s__law_lots) := ⟨rfl, rfl, rfl, by decide +kernel, rfl, by decide +kernel, by decide +kernel⟩
abbrev s__law_bad_lot : Stmt := top 77
theorem sc__law_bad_lot : FnScope ["stock", "days", "lot", "bent", "turn", "places", "place", "a"] ["stock", "days", "lot"] (defScope s__law_bad_lot) := ⟨rfl, rfl, rfl, by decide +kernel, rfl, by decide +kernel, by decide +kernel⟩
abbrev s__law_errors_right : Stmt := top 78
theorem sc__law_errors_right : FnScope ["stock", "almanac", "days", "spans", "weathers", "bent", "first", "bad", "row", "span", "rains", "other", "due", "wrong", "day", "keys"] ["stock", "almanac", "days", "spans", "weathers"] (defScope s__law_errors_right) := ⟨rfl, rfl, rfl, by decide +kernel, rfl, by decide +kernel, by decide +kernel⟩
abbrev s_law : Stmt := top 79
theorem sc_law : FnScope ["script", "stock", "days", "spans", "rains", "almanac", "weathers", "rows", "weather", "row", "a", "b", "lot", "table", "keys", "many", "chosen", "given"] ["script"] (defScope s_law) := ⟨rfl, rfl, rfl, by decide +kernel, rfl, by decide +kernel, by decide +kernel⟩
abbrev s_TooMany___init__ : Stmt := inClass (top 3) 0
theorem sc_TooMany___init__ : FnScope ["self", "what"] ["self", "what"] (defScope s_TooMany___init__) := ⟨rfl, rfl, rfl, by decide +kernel, rfl, by decide +kernel, by decide +kernel⟩
abbrev s_BadSky___init__ : Stmt := inClass (top 4) 0
theorem sc_BadSky___init__ : FnScope ["self", "row"] ["self", "row"] (defScope s_BadSky___init__) := ⟨rfl, rfl, rfl, by decide +kernel, rfl, by decide +kernel, by decide +kernel⟩
abbrev s_BadWeather___init__ : Stmt := inClass (top 5) 0
theorem sc_BadWeather___init__ : FnScope ["self", "day"] ["self", "day"] (defScope s_BadWeather___init__) := ⟨rfl, rfl, rfl, by decide +kernel, rfl, by decide +kernel, by decide +kernel⟩
abbrev s_BadTable___init__ : Stmt := inClass (top 9) 0
theorem sc_BadTable___init__ : FnScope ["self", "first", "last"] ["self", "first", "last"] (defScope s_BadTable___init__) := ⟨rfl, rfl, rfl, by decide +kernel, rfl, by decide +kernel, by decide +kernel⟩
abbrev s_BadGarden___init__ : Stmt := inClass (top 7) 0
theorem sc_BadGarden___init__ : FnScope ["self", "row"] ["self", "row"] (defScope s_BadGarden___init__) := ⟨rfl, rfl, rfl, by decide +kernel, rfl, by decide +kernel, by decide +kernel⟩
abbrev s_Almanac___init__ : Stmt := inClass (top 47) 0
theorem sc_Almanac___init__ : FnScope ["self", "days", "rains", "rain", "at", "first", "last", "least", "most"] ["self", "days", "rains"] (defScope s_Almanac___init__) := ⟨rfl, rfl, rfl, by decide +kernel, rfl, by decide +kernel, by decide +kernel⟩
abbrev s_Almanac_days : Stmt := inClass (top 47) 1
theorem sc_Almanac_days : FnScope ["self"] ["self"] (defScope s_Almanac_days) := ⟨rfl, rfl, rfl, by decide +kernel, rfl, by decide +kernel, by decide +kernel⟩
abbrev s_Almanac_rains : Stmt := inClass (top 47) 2
theorem sc_Almanac_rains : FnScope ["self"] ["self"] (defScope s_Almanac_rains) := ⟨rfl, rfl, rfl, by decide +kernel, rfl, by decide +kernel, by decide +kernel⟩
abbrev s_Almanac_begins : Stmt := inClass (top 47) 7
theorem sc_Almanac_begins : FnScope ["self", "beginning", "fell", "at", "report", "day", "number", "cans", "first", "last", "least", "most", "at_rain", "rain"] ["self", "beginning"] (defScope s_Almanac_begins) := ⟨rfl, rfl, rfl, by decide +kernel, rfl, by decide +kernel, by decide +kernel⟩
abbrev s_Garden___init__ : Stmt := inClass (top 18) 0
theorem sc_Garden___init__ : FnScope ["self", "days", "seeds", "at", "first", "last"] ["self", "days", "seeds"] (defScope s_Garden___init__) := ⟨rfl, rfl, rfl, by decide +kernel, rfl, by decide +kernel, by decide +kernel⟩
abbrev s_Garden_rows : Stmt := inClass (top 18) 3
theorem sc_Garden_rows : FnScope ["self"] ["self"] (defScope s_Garden_rows) := ⟨rfl, rfl, rfl, by decide +kernel, rfl, by decide +kernel, by decide +kernel⟩
def d_check_one_can : He.DefD := ⟨("check_one_can", none), "check_one_can", "check_one_can", defArgs s_check_one_can, defBody s_check_one_can, defScope s_check_one_can, [], []⟩
def d_check_weather : He.DefD := ⟨("check_weather", none), "check_weather", "check_weather", defArgs s_check_weather, defBody s_check_weather, defScope s_check_weather, [], []⟩
def d_all_stretches : He.DefD := ⟨("all_stretches", none), "all_stretches", "all_stretches", defArgs s_all_stretches, defBody s_all_stretches, defScope s_all_stretches, [], []⟩
def d_span_counts : He.DefD := ⟨("span_counts", none), "span_counts", "span_counts", defArgs s_span_counts, defBody s_span_counts, defScope s_span_counts, [], []⟩
def d_fall_counts : He.DefD := ⟨("fall_counts", none), "fall_counts", "fall_counts", defArgs s_fall_counts, defBody s_fall_counts, defScope s_fall_counts, [], []⟩
def d_key_stretches : He.DefD := ⟨("key_stretches", none), "key_stretches", "key_stretches", defArgs s_key_stretches, defBody s_key_stretches, defScope s_key_stretches, [], []⟩
def d_tight_among : He.DefD := ⟨("tight_among", none), "tight_among", "tight_among", defArgs s_tight_among, defBody s_tight_among, defScope s_tight_among, [], []⟩
def d_check : He.DefD := ⟨("check", none), "check", "check", defArgs s_check, defBody s_check, defScope s_check, [], []⟩
def d_check_each : He.DefD := ⟨("check_each", none), "check_each", "check_each", defArgs s_check_each, defBody s_check_each, defScope s_check_each, [], []⟩
def d_check_within : He.DefD := ⟨("check_within", none), "check_within", "check_within", defArgs s_check_within, defBody s_check_within, defScope s_check_within, [], []⟩
def d_report_ascends : He.DefD := ⟨("report_ascends", none), "report_ascends", "report_ascends", defArgs s_report_ascends, defBody s_report_ascends, defScope s_report_ascends, [], []⟩
def d_check_stretch : He.DefD := ⟨("check_stretch", none), "check_stretch", "check_stretch", defArgs s_check_stretch, defBody s_check_stretch, defScope s_check_stretch, [], []⟩
def d_free_day : He.DefD := ⟨("free_day", none), "free_day", "free_day", defArgs s_free_day, defBody s_free_day, defScope s_free_day, [], []⟩
def d_lot_places : He.DefD := ⟨("lot_places", none), "lot_places", "lot_places", defArgs s_lot_places, defBody s_lot_places, defScope s_lot_places, [], []⟩
def d_placed_weather : He.DefD := ⟨("placed_weather", none), "placed_weather", "placed_weather", defArgs s_placed_weather, defBody s_placed_weather, defScope s_placed_weather, [], []⟩
def d_lot_together : He.DefD := ⟨("lot_together", none), "lot_together", "lot_together", defArgs s_lot_together, defBody s_lot_together, defScope s_lot_together, [], []⟩
def d_first_undecided : He.DefD := ⟨("first_undecided", none), "first_undecided", "first_undecided", defArgs s_first_undecided, defBody s_first_undecided, defScope s_first_undecided, [], []⟩
def d_slipping_garden : He.DefD := ⟨("slipping_garden", none), "slipping_garden", "slipping_garden", defArgs s_slipping_garden, defBody s_slipping_garden, defScope s_slipping_garden, [], []⟩
def d__law_draw_spans : He.DefD := ⟨("_law_draw_spans", none), "_law_draw_spans", "_law_draw_spans", defArgs s__law_draw_spans, defBody s__law_draw_spans, defScope s__law_draw_spans, [], []⟩
def d__law_can_rains : He.DefD := ⟨("_law_can_rains", none), "_law_can_rains", "_law_can_rains", defArgs s__law_can_rains, defBody s__law_can_rains, defScope s__law_can_rains, [], []⟩
def d__law_stretches : He.DefD := ⟨("_law_stretches", none), "_law_stretches", "_law_stretches", defArgs s__law_stretches, defBody s__law_stretches, defScope s__law_stretches, [], []⟩
def d__law_spans_in : He.DefD := ⟨("_law_spans_in", none), "_law_spans_in", "_law_spans_in", defArgs s__law_spans_in, defBody s__law_spans_in, defScope s__law_spans_in, [], []⟩
def d__law_span_table : He.DefD := ⟨("_law_span_table", none), "_law_span_table", "_law_span_table", defArgs s__law_span_table, defBody s__law_span_table, defScope s__law_span_table, [], []⟩
def d__law_key_list : He.DefD := ⟨("_law_key_list", none), "_law_key_list", "_law_key_list", defArgs s__law_key_list, defBody s__law_key_list, defScope s__law_key_list, [], []⟩
def d__law_is_tight : He.DefD := ⟨("_law_is_tight", none), "_law_is_tight", "_law_is_tight", defArgs s__law_is_tight, defBody s__law_is_tight, defScope s__law_is_tight, [], []⟩
def d__law_first_wrong : He.DefD := ⟨("_law_first_wrong", none), "_law_first_wrong", "_law_first_wrong", defArgs s__law_first_wrong, defBody s__law_first_wrong, defScope s__law_first_wrong, [], []⟩
def d__law_bent_weather : He.DefD := ⟨("_law_bent_weather", none), "_law_bent_weather", "_law_bent_weather", defArgs s__law_bent_weather, defBody s__law_bent_weather, defScope s__law_bent_weather, [], []⟩
def d__law_covered : He.DefD := ⟨("_law_covered", none), "_law_covered", "_law_covered", defArgs s__law_covered, defBody s__law_covered, defScope s__law_covered, [], []⟩
def d__law_first_covered : He.DefD := ⟨("_law_first_covered", none), "_law_first_covered", "_law_first_covered", defArgs s__law_first_covered, defBody s__law_first_covered, defScope s__law_first_covered, [], []⟩
def d__law_undecided : He.DefD := ⟨("_law_undecided", none), "_law_undecided", "_law_undecided", defArgs s__law_undecided, defBody s__law_undecided, defScope s__law_undecided, [], []⟩
def d__law_are_weathers : He.DefD := ⟨("_law_are_weathers", none), "_law_are_weathers", "_law_are_weathers", defArgs s__law_are_weathers, defBody s__law_are_weathers, defScope s__law_are_weathers, [], []⟩
def d__law_whole : He.DefD := ⟨("_law_whole", none), "_law_whole", "_law_whole", defArgs s__law_whole, defBody s__law_whole, defScope s__law_whole, [], []⟩
def d__law_caught : He.DefD := ⟨("_law_caught", none), "_law_caught", "_law_caught", defArgs s__law_caught, defBody s__law_caught, defScope s__law_caught, [], []⟩
def d__law_stock : He.DefD := ⟨("_law_stock", none), "_law_stock", "_law_stock", defArgs s__law_stock, defBody s__law_stock, defScope s__law_stock, [], []⟩
def d__law_draw : He.DefD := ⟨("_law_draw", none), "_law_draw", "_law_draw", defArgs s__law_draw, defBody s__law_draw, defScope s__law_draw, [], []⟩
def d__law_mix : He.DefD := ⟨("_law_mix", none), "_law_mix", "_law_mix", defArgs s__law_mix, defBody s__law_mix, defScope s__law_mix, [], []⟩
def d__law_matches : He.DefD := ⟨("_law_matches", none), "_law_matches", "_law_matches", defArgs s__law_matches, defBody s__law_matches, defScope s__law_matches, [], []⟩
def d__law_deep : He.DefD := ⟨("_law_deep", none), "_law_deep", "_law_deep", defArgs s__law_deep, defBody s__law_deep, defScope s__law_deep, [], []⟩
def d__law_options : He.DefD := ⟨("_law_options", none), "_law_options", "_law_options", defArgs s__law_options, defBody s__law_options, defScope s__law_options, [], []⟩
def d__law_weather : He.DefD := ⟨("_law_weather", none), "_law_weather", "_law_weather", defArgs s__law_weather, defBody s__law_weather, defScope s__law_weather, [], []⟩
def d__law_weathers : He.DefD := ⟨("_law_weathers", none), "_law_weathers", "_law_weathers", defArgs s__law_weathers, defBody s__law_weathers, defScope s__law_weathers, [], []⟩
def d__law_ask_lot : He.DefD := ⟨("_law_ask_lot", none), "_law_ask_lot", "_law_ask_lot", defArgs s__law_ask_lot, defBody s__law_ask_lot, defScope s__law_ask_lot, [], []⟩
def d__law_ask_undecided : He.DefD := ⟨("_law_ask_undecided", none), "_law_ask_undecided", "_law_ask_undecided", defArgs s__law_ask_undecided, defBody s__law_ask_undecided, defScope s__law_ask_undecided, [], []⟩
def d__law_ask_slips : He.DefD := ⟨("_law_ask_slips", none), "_law_ask_slips", "_law_ask_slips", defArgs s__law_ask_slips, defBody s__law_ask_slips, defScope s__law_ask_slips, [], []⟩
def d__law_lot_right : He.DefD := ⟨("_law_lot_right", none), "_law_lot_right", "_law_lot_right", defArgs s__law_lot_right, defBody s__law_lot_right, defScope s__law_lot_right, [], []⟩
def d__law_lots : He.DefD := ⟨("_law_lots", none), "_law_lots", "_law_lots", defArgs s__law_lots, defBody s__law_lots, defScope s__law_lots, [], []⟩
def d__law_bad_lot : He.DefD := ⟨("_law_bad_lot", none), "_law_bad_lot", "_law_bad_lot", defArgs s__law_bad_lot, defBody s__law_bad_lot, defScope s__law_bad_lot, [], []⟩
def d__law_errors_right : He.DefD := ⟨("_law_errors_right", none), "_law_errors_right", "_law_errors_right", defArgs s__law_errors_right, defBody s__law_errors_right, defScope s__law_errors_right, [], []⟩
def d_law : He.DefD := ⟨("law", none), "law", "law", defArgs s_law, defBody s_law, defScope s_law, [], []⟩
def d_TooMany___init__ : He.DefD := ⟨("TooMany", some "__init__"), "__init__", "TooMany.__init__", defArgs s_TooMany___init__, defBody s_TooMany___init__, defScope s_TooMany___init__, [], []⟩
def d_BadSky___init__ : He.DefD := ⟨("BadSky", some "__init__"), "__init__", "BadSky.__init__", defArgs s_BadSky___init__, defBody s_BadSky___init__, defScope s_BadSky___init__, [], []⟩
def d_BadWeather___init__ : He.DefD := ⟨("BadWeather", some "__init__"), "__init__", "BadWeather.__init__", defArgs s_BadWeather___init__, defBody s_BadWeather___init__, defScope s_BadWeather___init__, [], []⟩
def d_BadTable___init__ : He.DefD := ⟨("BadTable", some "__init__"), "__init__", "BadTable.__init__", defArgs s_BadTable___init__, defBody s_BadTable___init__, defScope s_BadTable___init__, [], []⟩
def d_BadGarden___init__ : He.DefD := ⟨("BadGarden", some "__init__"), "__init__", "BadGarden.__init__", defArgs s_BadGarden___init__, defBody s_BadGarden___init__, defScope s_BadGarden___init__, [], []⟩
def d_Almanac___init__ : He.DefD := ⟨("Almanac", some "__init__"), "__init__", "Almanac.__init__", defArgs s_Almanac___init__, defBody s_Almanac___init__, defScope s_Almanac___init__, [], []⟩
def d_Almanac_days : He.DefD := ⟨("Almanac", some "days"), "days", "Almanac.days", defArgs s_Almanac_days, defBody s_Almanac_days, defScope s_Almanac_days, [], []⟩
def d_Almanac_rains : He.DefD := ⟨("Almanac", some "rains"), "rains", "Almanac.rains", defArgs s_Almanac_rains, defBody s_Almanac_rains, defScope s_Almanac_rains, [], []⟩
def d_Almanac_begins : He.DefD := ⟨("Almanac", some "begins"), "begins", "Almanac.begins", defArgs s_Almanac_begins, defBody s_Almanac_begins, defScope s_Almanac_begins, [], []⟩
def d_Garden___init__ : He.DefD := ⟨("Garden", some "__init__"), "__init__", "Garden.__init__", defArgs s_Garden___init__, defBody s_Garden___init__, defScope s_Garden___init__, [], []⟩
def d_Garden_rows : He.DefD := ⟨("Garden", some "rows"), "rows", "Garden.rows", defArgs s_Garden_rows, defBody s_Garden_rows, defScope s_Garden_rows, [], []⟩
def fn : List He.DefD := [d_check_one_can, d_check_weather, d_all_stretches, d_span_counts, d_fall_counts, d_key_stretches, d_tight_among, d_check, d_check_each, d_check_within, d_report_ascends, d_check_stretch, d_free_day, d_lot_places, d_placed_weather, d_lot_together, d_first_undecided, d_slipping_garden, d__law_draw_spans, d__law_can_rains, d__law_stretches, d__law_spans_in, d__law_span_table, d__law_key_list, d__law_is_tight, d__law_first_wrong, d__law_bent_weather, d__law_covered, d__law_first_covered, d__law_undecided, d__law_are_weathers, d__law_whole, d__law_caught, d__law_stock, d__law_draw, d__law_mix, d__law_matches, d__law_deep, d__law_options, d__law_weather, d__law_weathers, d__law_ask_lot, d__law_ask_undecided, d__law_ask_slips, d__law_lot_right, d__law_lots, d__law_bad_lot, d__law_errors_right, d_law, d_TooMany___init__, d_BadSky___init__, d_BadWeather___init__, d_BadTable___init__, d_BadGarden___init__, d_Almanac___init__, d_Almanac_days, d_Almanac_rains, d_Almanac_begins, d_Garden___init__, d_Garden_rows]
def fa : List He.Fa := [.glo "check_one_can", .glo "check_weather", .glo "all_stretches", .glo "span_counts", .glo "fall_counts", .glo "key_stretches", .glo "tight_among", .glo "check", .glo "check_each", .glo "check_within", .glo "report_ascends", .glo "check_stretch", .glo "free_day", .glo "lot_places", .glo "placed_weather", .glo "lot_together", .glo "first_undecided", .glo "slipping_garden", .glo "_law_draw_spans", .glo "_law_can_rains", .glo "_law_stretches", .glo "_law_spans_in", .glo "_law_span_table", .glo "_law_key_list", .glo "_law_is_tight", .glo "_law_first_wrong", .glo "_law_bent_weather", .glo "_law_covered", .glo "_law_first_covered", .glo "_law_undecided", .glo "_law_are_weathers", .glo "_law_whole", .glo "_law_caught", .glo "_law_stock", .glo "_law_draw", .glo "_law_mix", .glo "_law_matches", .glo "_law_deep", .glo "_law_options", .glo "_law_weather", .glo "_law_weathers", .glo "_law_ask_lot", .glo "_law_ask_undecided", .glo "_law_ask_slips", .glo "_law_lot_right", .glo "_law_lots", .glo "_law_bad_lot", .glo "_law_errors_right", .glo "law", .glo "SeenError", .glo "TooMany", .glo "BadSky", .glo "BadWeather", .glo "BadTable", .glo "BadSetting", .glo "BadGarden", .glo "Almanac", .glo "Garden", .glo "LIMITS", .free "len", .free "max", .free "min", .free "list", .free "int", .free "abs", .free "sum", .free "isinstance", .free "range", .free "bool", .free "str", .free "dict", .free "tuple", .free "enumerate", .free "set", .free "ValueError", .free "all", .free "any", .free "sorted", .cls "Almanac", .mkr "Almanac", .noat "Almanac" "days_number", .noat "Almanac" "rains_list", .meth "Almanac" "days", .meth "Almanac" "rains", .meth "Almanac" "begins", .cls "Garden", .mkr "Garden", .noat "Garden" "days_number", .noat "Garden" "seed_list", .meth "Garden" "rows", .int "LISTED_lots" 2000]
def tf : List He.Defn := []
def ts : List He.Tab := []
def limits : List (Str × He.Dv) := [("days", .int 24), ("rains", .int 40), ("cans", .int 1000000000000), ("seeds", .int 120), ("weathers", .int 100), ("calls", .int 60), ("price", .int 1000000000000), ("offers", .int 120), ("trials", .int 6), ("lot", .int 14), ("houses", .int 6), ("row", .int 4), ("deeds", .int 120)]
def limKeys : List Str := ["days", "rains", "cans", "seeds", "weathers", "calls", "price", "offers", "trials", "lot", "houses", "row", "deeds"]
def exs (K : PySem.W.Frag) : List Bool := [He.valsB K (He.ga K "LIMITS") limits,
  seB K (He.ga K "SeenError"),
  exTB K (He.ga K "TooMany") (He.ma K (He.ga K "TooMany") "__init__"),
  decide (PySem.W.findIn K (.ref (He.ga K "TooMany")) "what" = some none),
  decide (PySem.W.exmOne K (.ref (He.ga K "TooMany")) (.ref (He.ga K "SeenError")) = some true),
  decide (PySem.W.kitOne K (.ref (He.ga K "TooMany")) (.ref (He.ga K "TooMany")) = some true),
  decide (PySem.W.kitOne K (.ref (He.ga K "TooMany")) (.ref (He.ga K "BadSky")) = some false),
  decide (PySem.W.kitOne K (.ref (He.ga K "TooMany")) (.ref (He.ga K "BadWeather")) = some false),
  decide (PySem.W.kitOne K (.ref (He.ga K "TooMany")) (.ref (He.ga K "BadTable")) = some false),
  decide (PySem.W.kitOne K (.ref (He.ga K "TooMany")) (.ref (He.ga K "BadSetting")) = some false),
  decide (PySem.W.kitOne K (.ref (He.ga K "TooMany")) (.type "ValueError") = some true),
  exTB K (He.ga K "BadSky") (He.ma K (He.ga K "BadSky") "__init__"),
  decide (PySem.W.findIn K (.ref (He.ga K "BadSky")) "row" = some none),
  decide (PySem.W.exmOne K (.ref (He.ga K "BadSky")) (.ref (He.ga K "SeenError")) = some true),
  decide (PySem.W.kitOne K (.ref (He.ga K "BadSky")) (.ref (He.ga K "TooMany")) = some false),
  decide (PySem.W.kitOne K (.ref (He.ga K "BadSky")) (.ref (He.ga K "BadSky")) = some true),
  decide (PySem.W.kitOne K (.ref (He.ga K "BadSky")) (.ref (He.ga K "BadWeather")) = some false),
  decide (PySem.W.kitOne K (.ref (He.ga K "BadSky")) (.ref (He.ga K "BadTable")) = some false),
  decide (PySem.W.kitOne K (.ref (He.ga K "BadSky")) (.ref (He.ga K "BadSetting")) = some false),
  decide (PySem.W.kitOne K (.ref (He.ga K "BadSky")) (.type "ValueError") = some true),
  exTB K (He.ga K "BadWeather") (He.ma K (He.ga K "BadWeather") "__init__"),
  decide (PySem.W.findIn K (.ref (He.ga K "BadWeather")) "day" = some none),
  decide (PySem.W.exmOne K (.ref (He.ga K "BadWeather")) (.ref (He.ga K "SeenError")) = some true),
  decide (PySem.W.kitOne K (.ref (He.ga K "BadWeather")) (.ref (He.ga K "TooMany")) = some false),
  decide (PySem.W.kitOne K (.ref (He.ga K "BadWeather")) (.ref (He.ga K "BadSky")) = some false),
  decide (PySem.W.kitOne K (.ref (He.ga K "BadWeather")) (.ref (He.ga K "BadWeather")) = some true),
  decide (PySem.W.kitOne K (.ref (He.ga K "BadWeather")) (.ref (He.ga K "BadTable")) = some false),
  decide (PySem.W.kitOne K (.ref (He.ga K "BadWeather")) (.ref (He.ga K "BadSetting")) = some false),
  decide (PySem.W.kitOne K (.ref (He.ga K "BadWeather")) (.type "ValueError") = some true),
  exTB K (He.ga K "BadTable") (He.ma K (He.ga K "BadTable") "__init__"),
  decide (PySem.W.findIn K (.ref (He.ga K "BadTable")) "first" = some none),
  decide (PySem.W.findIn K (.ref (He.ga K "BadTable")) "last" = some none),
  decide (PySem.W.exmOne K (.ref (He.ga K "BadTable")) (.ref (He.ga K "SeenError")) = some true),
  decide (PySem.W.kitOne K (.ref (He.ga K "BadTable")) (.ref (He.ga K "TooMany")) = some false),
  decide (PySem.W.kitOne K (.ref (He.ga K "BadTable")) (.ref (He.ga K "BadSky")) = some false),
  decide (PySem.W.kitOne K (.ref (He.ga K "BadTable")) (.ref (He.ga K "BadWeather")) = some false),
  decide (PySem.W.kitOne K (.ref (He.ga K "BadTable")) (.ref (He.ga K "BadTable")) = some true),
  decide (PySem.W.kitOne K (.ref (He.ga K "BadTable")) (.ref (He.ga K "BadSetting")) = some false),
  decide (PySem.W.kitOne K (.ref (He.ga K "BadTable")) (.type "ValueError") = some true),
  exTB K (He.ga K "BadGarden") (He.ma K (He.ga K "BadGarden") "__init__"),
  decide (PySem.W.findIn K (.ref (He.ga K "BadGarden")) "row" = some none),
  decide (PySem.W.exmOne K (.ref (He.ga K "BadGarden")) (.ref (He.ga K "SeenError")) = some true),
  decide (PySem.W.kitOne K (.ref (He.ga K "BadGarden")) (.ref (He.ga K "TooMany")) = some false),
  decide (PySem.W.kitOne K (.ref (He.ga K "BadGarden")) (.ref (He.ga K "BadSky")) = some false),
  decide (PySem.W.kitOne K (.ref (He.ga K "BadGarden")) (.ref (He.ga K "BadWeather")) = some false),
  decide (PySem.W.kitOne K (.ref (He.ga K "BadGarden")) (.ref (He.ga K "BadTable")) = some false),
  decide (PySem.W.kitOne K (.ref (He.ga K "BadGarden")) (.ref (He.ga K "BadSetting")) = some false),
  decide (PySem.W.kitOne K (.ref (He.ga K "BadGarden")) (.type "ValueError") = some true),
  decide ((tf.map fun p => (He.cT K p).2).Nodup)]
def ex (K : PySem.W.Frag) : Bool := (exs K).all id
abbrev hk : PySem.W.Hook := He.hookS 4 fa fn [(fun K => He.ga K "LIMITS", limKeys)] tf ex
def ob (s : PySem.W.SharedT) : He.AlX := He.obsS 4 fa fn [(fun K => He.ga K "LIMITS", limKeys)] tf ex (HandSHeadRun.getT s)
theorem ob_eq (s : PySem.W.SharedT) : ob s = hk.obs s.abs := He.obsS_eq (HandSHeadRun.getT_eq s)
/-- what the head tells of the written part -/
structure Txt (w : World) (K : PySem.W.Frag) (mg : Str → Option Value) : Prop where
  ex : ∃ h, K.In h ∧ h.Ns mainGlobals mg ∧ He.SaysX fa fn [(fun K => He.ga K "LIMITS", limKeys)] tf ex w h K
section
variable {w : World} {K : PySem.W.Frag} {mg : Str → Option Value}
theorem Txt.df (T : Txt w K mg) (i j : Nat) {d : He.DefD} (hd : d.dfl = []) (hk : d.kwd = []) (h : fn[i]? = some d) (x : Str) (hx : d.at_ = (x, none)) (hg : fa[j]? = some (.glo x)) : ∃ f fd, FunD K d.name d.qual d.params d.body d.scope [] [] f fd ∧ mg x = some (.ref f) := by
  obtain ⟨h0, X, G, c⟩ := T.ex
  obtain ⟨fd, F⟩ := c.t.d.defs (List.mem_of_getElem? h)
  have e1 : d.dvs K = [] := by unfold He.DefD.dvs; rw [hd]; rfl
  have e2 : d.kws K = [] := by unfold He.DefD.kws; rw [hk]; rfl
  rw [e1, e2, hx] at F
  exact ⟨_, fd, F, He.glo_ok X G (c.t.d.facts (List.mem_of_getElem? hg))⟩
theorem Txt.dm (T : Txt w K mg) (i : Nat) {d : He.DefD} (hd : d.dfl = []) (hk : d.kwd = []) (h : fn[i]? = some d) : ∃ fd, FunD K d.name d.qual d.params d.body d.scope [] [] (He.fAd K d.at_) fd := by
  obtain ⟨h0, X, G, c⟩ := T.ex
  obtain ⟨fd, F⟩ := c.t.d.defs (List.mem_of_getElem? h)
  have e1 : d.dvs K = [] := by unfold He.DefD.dvs; rw [hd]; rfl
  have e2 : d.kws K = [] := by unfold He.DefD.kws; rw [hk]; rfl
  rw [e1, e2] at F
  exact ⟨fd, F⟩
theorem Txt.gl (T : Txt w K mg) (j : Nat) (x : Str) (hg : fa[j]? = some (.glo x)) : mg x = some (.ref (He.ga K x)) := by
  obtain ⟨h0, X, G, c⟩ := T.ex
  exact He.glo_ok X G (c.t.d.facts (List.mem_of_getElem? hg))
theorem Txt.fr (T : Txt w K mg) (j : Nat) (x : Str) (hg : fa[j]? = some (.free x)) : mg x = none := by
  obtain ⟨h0, X, G, c⟩ := T.ex
  exact He.free_ok X G (c.t.d.facts (List.mem_of_getElem? hg))
theorem Txt.fact (T : Txt w K mg) (j : Nat) {f : He.Fa} (hg : fa[j]? = some f) : f.ok K = true := by
  obtain ⟨h0, X, G, c⟩ := T.ex
  exact c.t.d.facts (List.mem_of_getElem? hg)
theorem Txt.x (T : Txt w K mg) (i : Nat) {b : Bool} (h : (exs K)[i]? = some b) : b = true := by
  obtain ⟨h0, X, G, c⟩ := T.ex
  exact List.all_eq_true.mp c.more b (List.mem_of_getElem? h)
theorem f_check_one_can (T : Txt w K mg) : ∃ f fd, FnP K "check_one_can" s_check_one_can f fd ∧ mg "check_one_can" = some (.ref f) := T.df 0 0 (d := d_check_one_can) rfl rfl rfl "check_one_can" rfl rfl
theorem f_check_weather (T : Txt w K mg) : ∃ f fd, FnP K "check_weather" s_check_weather f fd ∧ mg "check_weather" = some (.ref f) := T.df 1 1 (d := d_check_weather) rfl rfl rfl "check_weather" rfl rfl
theorem f_all_stretches (T : Txt w K mg) : ∃ f fd, FnP K "all_stretches" s_all_stretches f fd ∧ mg "all_stretches" = some (.ref f) := T.df 2 2 (d := d_all_stretches) rfl rfl rfl "all_stretches" rfl rfl
theorem f_span_counts (T : Txt w K mg) : ∃ f fd, FnP K "span_counts" s_span_counts f fd ∧ mg "span_counts" = some (.ref f) := T.df 3 3 (d := d_span_counts) rfl rfl rfl "span_counts" rfl rfl
theorem f_fall_counts (T : Txt w K mg) : ∃ f fd, FnP K "fall_counts" s_fall_counts f fd ∧ mg "fall_counts" = some (.ref f) := T.df 4 4 (d := d_fall_counts) rfl rfl rfl "fall_counts" rfl rfl
theorem f_key_stretches (T : Txt w K mg) : ∃ f fd, FnP K "key_stretches" s_key_stretches f fd ∧ mg "key_stretches" = some (.ref f) := T.df 5 5 (d := d_key_stretches) rfl rfl rfl "key_stretches" rfl rfl
theorem f_tight_among (T : Txt w K mg) : ∃ f fd, FnP K "tight_among" s_tight_among f fd ∧ mg "tight_among" = some (.ref f) := T.df 6 6 (d := d_tight_among) rfl rfl rfl "tight_among" rfl rfl
theorem f_check (T : Txt w K mg) : ∃ f fd, FnP K "check" s_check f fd ∧ mg "check" = some (.ref f) := T.df 7 7 (d := d_check) rfl rfl rfl "check" rfl rfl
theorem f_check_each (T : Txt w K mg) : ∃ f fd, FnP K "check_each" s_check_each f fd ∧ mg "check_each" = some (.ref f) := T.df 8 8 (d := d_check_each) rfl rfl rfl "check_each" rfl rfl
theorem f_check_within (T : Txt w K mg) : ∃ f fd, FnP K "check_within" s_check_within f fd ∧ mg "check_within" = some (.ref f) := T.df 9 9 (d := d_check_within) rfl rfl rfl "check_within" rfl rfl
theorem f_report_ascends (T : Txt w K mg) : ∃ f fd, FnP K "report_ascends" s_report_ascends f fd ∧ mg "report_ascends" = some (.ref f) := T.df 10 10 (d := d_report_ascends) rfl rfl rfl "report_ascends" rfl rfl
theorem f_check_stretch (T : Txt w K mg) : ∃ f fd, FnP K "check_stretch" s_check_stretch f fd ∧ mg "check_stretch" = some (.ref f) := T.df 11 11 (d := d_check_stretch) rfl rfl rfl "check_stretch" rfl rfl
theorem f_free_day (T : Txt w K mg) : ∃ f fd, FnP K "free_day" s_free_day f fd ∧ mg "free_day" = some (.ref f) := T.df 12 12 (d := d_free_day) rfl rfl rfl "free_day" rfl rfl
theorem f_lot_places (T : Txt w K mg) : ∃ f fd, FnP K "lot_places" s_lot_places f fd ∧ mg "lot_places" = some (.ref f) := T.df 13 13 (d := d_lot_places) rfl rfl rfl "lot_places" rfl rfl
theorem f_placed_weather (T : Txt w K mg) : ∃ f fd, FnP K "placed_weather" s_placed_weather f fd ∧ mg "placed_weather" = some (.ref f) := T.df 14 14 (d := d_placed_weather) rfl rfl rfl "placed_weather" rfl rfl
theorem f_lot_together (T : Txt w K mg) : ∃ f fd, FnP K "lot_together" s_lot_together f fd ∧ mg "lot_together" = some (.ref f) := T.df 15 15 (d := d_lot_together) rfl rfl rfl "lot_together" rfl rfl
theorem f_first_undecided (T : Txt w K mg) : ∃ f fd, FnP K "first_undecided" s_first_undecided f fd ∧ mg "first_undecided" = some (.ref f) := T.df 16 16 (d := d_first_undecided) rfl rfl rfl "first_undecided" rfl rfl
theorem f_slipping_garden (T : Txt w K mg) : ∃ f fd, FnP K "slipping_garden" s_slipping_garden f fd ∧ mg "slipping_garden" = some (.ref f) := T.df 17 17 (d := d_slipping_garden) rfl rfl rfl "slipping_garden" rfl rfl
theorem f__law_draw_spans (T : Txt w K mg) : ∃ f fd, FnP K "_law_draw_spans" s__law_draw_spans f fd ∧ mg "_law_draw_spans" = some (.ref f) := T.df 18 18 (d := d__law_draw_spans) rfl rfl rfl "_law_draw_spans" rfl rfl
theorem f__law_can_rains (T : Txt w K mg) : ∃ f fd, FnP K "_law_can_rains" s__law_can_rains f fd ∧ mg "_law_can_rains" = some (.ref f) := T.df 19 19 (d := d__law_can_rains) rfl rfl rfl "_law_can_rains" rfl rfl
theorem f__law_stretches (T : Txt w K mg) : ∃ f fd, FnP K "_law_stretches" s__law_stretches f fd ∧ mg "_law_stretches" = some (.ref f) := T.df 20 20 (d := d__law_stretches) rfl rfl rfl "_law_stretches" rfl rfl
theorem f__law_spans_in (T : Txt w K mg) : ∃ f fd, FnP K "_law_spans_in" s__law_spans_in f fd ∧ mg "_law_spans_in" = some (.ref f) := T.df 21 21 (d := d__law_spans_in) rfl rfl rfl "_law_spans_in" rfl rfl
theorem f__law_span_table (T : Txt w K mg) : ∃ f fd, FnP K "_law_span_table" s__law_span_table f fd ∧ mg "_law_span_table" = some (.ref f) := T.df 22 22 (d := d__law_span_table) rfl rfl rfl "_law_span_table" rfl rfl
theorem f__law_key_list (T : Txt w K mg) : ∃ f fd, FnP K "_law_key_list" s__law_key_list f fd ∧ mg "_law_key_list" = some (.ref f) := T.df 23 23 (d := d__law_key_list) rfl rfl rfl "_law_key_list" rfl rfl
theorem f__law_is_tight (T : Txt w K mg) : ∃ f fd, FnP K "_law_is_tight" s__law_is_tight f fd ∧ mg "_law_is_tight" = some (.ref f) := T.df 24 24 (d := d__law_is_tight) rfl rfl rfl "_law_is_tight" rfl rfl
theorem f__law_first_wrong (T : Txt w K mg) : ∃ f fd, FnP K "_law_first_wrong" s__law_first_wrong f fd ∧ mg "_law_first_wrong" = some (.ref f) := T.df 25 25 (d := d__law_first_wrong) rfl rfl rfl "_law_first_wrong" rfl rfl
theorem f__law_bent_weather (T : Txt w K mg) : ∃ f fd, FnP K "_law_bent_weather" s__law_bent_weather f fd ∧ mg "_law_bent_weather" = some (.ref f) := T.df 26 26 (d := d__law_bent_weather) rfl rfl rfl "_law_bent_weather" rfl rfl
theorem f__law_covered (T : Txt w K mg) : ∃ f fd, FnP K "_law_covered" s__law_covered f fd ∧ mg "_law_covered" = some (.ref f) := T.df 27 27 (d := d__law_covered) rfl rfl rfl "_law_covered" rfl rfl
theorem f__law_first_covered (T : Txt w K mg) : ∃ f fd, FnP K "_law_first_covered" s__law_first_covered f fd ∧ mg "_law_first_covered" = some (.ref f) := T.df 28 28 (d := d__law_first_covered) rfl rfl rfl "_law_first_covered" rfl rfl
theorem f__law_undecided (T : Txt w K mg) : ∃ f fd, FnP K "_law_undecided" s__law_undecided f fd ∧ mg "_law_undecided" = some (.ref f) := T.df 29 29 (d := d__law_undecided) rfl rfl rfl "_law_undecided" rfl rfl
theorem f__law_are_weathers (T : Txt w K mg) : ∃ f fd, FnP K "_law_are_weathers" s__law_are_weathers f fd ∧ mg "_law_are_weathers" = some (.ref f) := T.df 30 30 (d := d__law_are_weathers) rfl rfl rfl "_law_are_weathers" rfl rfl
theorem f__law_whole (T : Txt w K mg) : ∃ f fd, FnP K "_law_whole" s__law_whole f fd ∧ mg "_law_whole" = some (.ref f) := T.df 31 31 (d := d__law_whole) rfl rfl rfl "_law_whole" rfl rfl
theorem f__law_caught (T : Txt w K mg) : ∃ f fd, FnP K "_law_caught" s__law_caught f fd ∧ mg "_law_caught" = some (.ref f) := T.df 32 32 (d := d__law_caught) rfl rfl rfl "_law_caught" rfl rfl
theorem f__law_stock (T : Txt w K mg) : ∃ f fd, FnP K "_law_stock" s__law_stock f fd ∧ mg "_law_stock" = some (.ref f) := T.df 33 33 (d := d__law_stock) rfl rfl rfl "_law_stock" rfl rfl
theorem f__law_draw (T : Txt w K mg) : ∃ f fd, FnP K "_law_draw" s__law_draw f fd ∧ mg "_law_draw" = some (.ref f) := T.df 34 34 (d := d__law_draw) rfl rfl rfl "_law_draw" rfl rfl
theorem f__law_mix (T : Txt w K mg) : ∃ f fd, FnP K "_law_mix" s__law_mix f fd ∧ mg "_law_mix" = some (.ref f) := T.df 35 35 (d := d__law_mix) rfl rfl rfl "_law_mix" rfl rfl
theorem f__law_matches (T : Txt w K mg) : ∃ f fd, FnP K "_law_matches" s__law_matches f fd ∧ mg "_law_matches" = some (.ref f) := T.df 36 36 (d := d__law_matches) rfl rfl rfl "_law_matches" rfl rfl
theorem f__law_deep (T : Txt w K mg) : ∃ f fd, FnP K "_law_deep" s__law_deep f fd ∧ mg "_law_deep" = some (.ref f) := T.df 37 37 (d := d__law_deep) rfl rfl rfl "_law_deep" rfl rfl
theorem f__law_options (T : Txt w K mg) : ∃ f fd, FnP K "_law_options" s__law_options f fd ∧ mg "_law_options" = some (.ref f) := T.df 38 38 (d := d__law_options) rfl rfl rfl "_law_options" rfl rfl
theorem f__law_weather (T : Txt w K mg) : ∃ f fd, FnP K "_law_weather" s__law_weather f fd ∧ mg "_law_weather" = some (.ref f) := T.df 39 39 (d := d__law_weather) rfl rfl rfl "_law_weather" rfl rfl
theorem f__law_weathers (T : Txt w K mg) : ∃ f fd, FnP K "_law_weathers" s__law_weathers f fd ∧ mg "_law_weathers" = some (.ref f) := T.df 40 40 (d := d__law_weathers) rfl rfl rfl "_law_weathers" rfl rfl
theorem f__law_ask_lot (T : Txt w K mg) : ∃ f fd, FnP K "_law_ask_lot" s__law_ask_lot f fd ∧ mg "_law_ask_lot" = some (.ref f) := T.df 41 41 (d := d__law_ask_lot) rfl rfl rfl "_law_ask_lot" rfl rfl
theorem f__law_ask_undecided (T : Txt w K mg) : ∃ f fd, FnP K "_law_ask_undecided" s__law_ask_undecided f fd ∧ mg "_law_ask_undecided" = some (.ref f) := T.df 42 42 (d := d__law_ask_undecided) rfl rfl rfl "_law_ask_undecided" rfl rfl
theorem f__law_ask_slips (T : Txt w K mg) : ∃ f fd, FnP K "_law_ask_slips" s__law_ask_slips f fd ∧ mg "_law_ask_slips" = some (.ref f) := T.df 43 43 (d := d__law_ask_slips) rfl rfl rfl "_law_ask_slips" rfl rfl
theorem f__law_lot_right (T : Txt w K mg) : ∃ f fd, FnP K "_law_lot_right" s__law_lot_right f fd ∧ mg "_law_lot_right" = some (.ref f) := T.df 44 44 (d := d__law_lot_right) rfl rfl rfl "_law_lot_right" rfl rfl
theorem f__law_lots (T : Txt w K mg) : ∃ f fd, FnP K "_law_lots" s__law_lots f fd ∧ mg "_law_lots" = some (.ref f) := T.df 45 45 (d := d__law_lots) rfl rfl rfl "_law_lots" rfl rfl
theorem f__law_bad_lot (T : Txt w K mg) : ∃ f fd, FnP K "_law_bad_lot" s__law_bad_lot f fd ∧ mg "_law_bad_lot" = some (.ref f) := T.df 46 46 (d := d__law_bad_lot) rfl rfl rfl "_law_bad_lot" rfl rfl
theorem f__law_errors_right (T : Txt w K mg) : ∃ f fd, FnP K "_law_errors_right" s__law_errors_right f fd ∧ mg "_law_errors_right" = some (.ref f) := T.df 47 47 (d := d__law_errors_right) rfl rfl rfl "_law_errors_right" rfl rfl
theorem f_law (T : Txt w K mg) : ∃ f fd, FnP K "law" s_law f fd ∧ mg "law" = some (.ref f) := T.df 48 48 (d := d_law) rfl rfl rfl "law" rfl rfl
theorem fi_TooMany (T : Txt w K mg) : ∃ fd, FnM K "__init__" "TooMany.__init__" s_TooMany___init__ (He.ma K (He.ga K "TooMany") "__init__") fd := T.dm 49 (d := d_TooMany___init__) rfl rfl rfl
theorem fi_BadSky (T : Txt w K mg) : ∃ fd, FnM K "__init__" "BadSky.__init__" s_BadSky___init__ (He.ma K (He.ga K "BadSky") "__init__") fd := T.dm 50 (d := d_BadSky___init__) rfl rfl rfl
theorem fi_BadWeather (T : Txt w K mg) : ∃ fd, FnM K "__init__" "BadWeather.__init__" s_BadWeather___init__ (He.ma K (He.ga K "BadWeather") "__init__") fd := T.dm 51 (d := d_BadWeather___init__) rfl rfl rfl
theorem fi_BadTable (T : Txt w K mg) : ∃ fd, FnM K "__init__" "BadTable.__init__" s_BadTable___init__ (He.ma K (He.ga K "BadTable") "__init__") fd := T.dm 52 (d := d_BadTable___init__) rfl rfl rfl
theorem fi_BadGarden (T : Txt w K mg) : ∃ fd, FnM K "__init__" "BadGarden.__init__" s_BadGarden___init__ (He.ma K (He.ga K "BadGarden") "__init__") fd := T.dm 53 (d := d_BadGarden___init__) rfl rfl rfl
theorem fm_Almanac___init__ (T : Txt w K mg) : ∃ fd, FnM K "__init__" "Almanac.__init__" s_Almanac___init__ (He.ma K (He.ga K "Almanac") "__init__") fd := T.dm 54 (d := d_Almanac___init__) rfl rfl rfl
theorem fm_Almanac_days (T : Txt w K mg) : ∃ fd, FnM K "days" "Almanac.days" s_Almanac_days (He.ma K (He.ga K "Almanac") "days") fd := T.dm 55 (d := d_Almanac_days) rfl rfl rfl
theorem fm_Almanac_rains (T : Txt w K mg) : ∃ fd, FnM K "rains" "Almanac.rains" s_Almanac_rains (He.ma K (He.ga K "Almanac") "rains") fd := T.dm 56 (d := d_Almanac_rains) rfl rfl rfl
theorem fm_Almanac_begins (T : Txt w K mg) : ∃ fd, FnM K "begins" "Almanac.begins" s_Almanac_begins (He.ma K (He.ga K "Almanac") "begins") fd := T.dm 57 (d := d_Almanac_begins) rfl rfl rfl
theorem fm_Garden___init__ (T : Txt w K mg) : ∃ fd, FnM K "__init__" "Garden.__init__" s_Garden___init__ (He.ma K (He.ga K "Garden") "__init__") fd := T.dm 58 (d := d_Garden___init__) rfl rfl rfl
theorem fm_Garden_rows (T : Txt w K mg) : ∃ fd, FnM K "rows" "Garden.rows" s_Garden_rows (He.ma K (He.ga K "Garden") "rows") fd := T.dm 59 (d := d_Garden_rows) rfl rfl rfl
theorem g_SeenError (T : Txt w K mg) : mg "SeenError" = some (.ref (He.ga K "SeenError")) := T.gl 49 "SeenError" rfl
theorem g_TooMany (T : Txt w K mg) : mg "TooMany" = some (.ref (He.ga K "TooMany")) := T.gl 50 "TooMany" rfl
theorem g_BadSky (T : Txt w K mg) : mg "BadSky" = some (.ref (He.ga K "BadSky")) := T.gl 51 "BadSky" rfl
theorem g_BadWeather (T : Txt w K mg) : mg "BadWeather" = some (.ref (He.ga K "BadWeather")) := T.gl 52 "BadWeather" rfl
theorem g_BadTable (T : Txt w K mg) : mg "BadTable" = some (.ref (He.ga K "BadTable")) := T.gl 53 "BadTable" rfl
theorem g_BadSetting (T : Txt w K mg) : mg "BadSetting" = some (.ref (He.ga K "BadSetting")) := T.gl 54 "BadSetting" rfl
theorem g_BadGarden (T : Txt w K mg) : mg "BadGarden" = some (.ref (He.ga K "BadGarden")) := T.gl 55 "BadGarden" rfl
theorem g_Almanac (T : Txt w K mg) : mg "Almanac" = some (.ref (He.ga K "Almanac")) := T.gl 56 "Almanac" rfl
theorem g_Garden (T : Txt w K mg) : mg "Garden" = some (.ref (He.ga K "Garden")) := T.gl 57 "Garden" rfl
theorem g_LIMITS (T : Txt w K mg) : mg "LIMITS" = some (.ref (He.ga K "LIMITS")) := T.gl 58 "LIMITS" rfl
theorem n_len (T : Txt w K mg) : mg "len" = none := T.fr 59 "len" rfl
theorem n_max (T : Txt w K mg) : mg "max" = none := T.fr 60 "max" rfl
theorem n_min (T : Txt w K mg) : mg "min" = none := T.fr 61 "min" rfl
theorem n_list (T : Txt w K mg) : mg "list" = none := T.fr 62 "list" rfl
theorem n_int (T : Txt w K mg) : mg "int" = none := T.fr 63 "int" rfl
theorem n_abs (T : Txt w K mg) : mg "abs" = none := T.fr 64 "abs" rfl
theorem n_sum (T : Txt w K mg) : mg "sum" = none := T.fr 65 "sum" rfl
theorem n_isinstance (T : Txt w K mg) : mg "isinstance" = none := T.fr 66 "isinstance" rfl
theorem n_range (T : Txt w K mg) : mg "range" = none := T.fr 67 "range" rfl
theorem n_bool (T : Txt w K mg) : mg "bool" = none := T.fr 68 "bool" rfl
theorem n_str (T : Txt w K mg) : mg "str" = none := T.fr 69 "str" rfl
theorem n_dict (T : Txt w K mg) : mg "dict" = none := T.fr 70 "dict" rfl
theorem n_tuple (T : Txt w K mg) : mg "tuple" = none := T.fr 71 "tuple" rfl
theorem n_enumerate (T : Txt w K mg) : mg "enumerate" = none := T.fr 72 "enumerate" rfl
theorem n_set (T : Txt w K mg) : mg "set" = none := T.fr 73 "set" rfl
theorem n_ValueError (T : Txt w K mg) : mg "ValueError" = none := T.fr 74 "ValueError" rfl
theorem n_all (T : Txt w K mg) : mg "all" = none := T.fr 75 "all" rfl
theorem n_any (T : Txt w K mg) : mg "any" = none := T.fr 76 "any" rfl
theorem n_sorted (T : Txt w K mg) : mg "sorted" = none := T.fr 77 "sorted" rfl
theorem cl_Almanac (T : Txt w K mg) : Cls K (He.ga K "Almanac") := He.cls_ok (T.fact 78 rfl)
theorem mk_Almanac (T : Txt w K mg) : Mk K (He.ga K "Almanac") (He.ma K (He.ga K "Almanac") "__init__") := He.mkr_ok (T.fact 79 rfl)
theorem na_Almanac_days_number (T : Txt w K mg) : NoAttr K (He.ga K "Almanac") "days_number" := He.noat_ok (T.fact 80 rfl)
theorem na_Almanac_rains_list (T : Txt w K mg) : NoAttr K (He.ga K "Almanac") "rains_list" := He.noat_ok (T.fact 81 rfl)
theorem me_Almanac_days (T : Txt w K mg) : Meth K (He.ga K "Almanac") "days" (He.ma K (He.ga K "Almanac") "days") := He.meth_ok (T.fact 82 rfl)
theorem me_Almanac_rains (T : Txt w K mg) : Meth K (He.ga K "Almanac") "rains" (He.ma K (He.ga K "Almanac") "rains") := He.meth_ok (T.fact 83 rfl)
theorem me_Almanac_begins (T : Txt w K mg) : Meth K (He.ga K "Almanac") "begins" (He.ma K (He.ga K "Almanac") "begins") := He.meth_ok (T.fact 84 rfl)
theorem cl_Garden (T : Txt w K mg) : Cls K (He.ga K "Garden") := He.cls_ok (T.fact 85 rfl)
theorem mk_Garden (T : Txt w K mg) : Mk K (He.ga K "Garden") (He.ma K (He.ga K "Garden") "__init__") := He.mkr_ok (T.fact 86 rfl)
theorem na_Garden_days_number (T : Txt w K mg) : NoAttr K (He.ga K "Garden") "days_number" := He.noat_ok (T.fact 87 rfl)
theorem na_Garden_seed_list (T : Txt w K mg) : NoAttr K (He.ga K "Garden") "seed_list" := He.noat_ok (T.fact 88 rfl)
theorem me_Garden_rows (T : Txt w K mg) : Meth K (He.ga K "Garden") "rows" (He.ma K (He.ga K "Garden") "rows") := He.meth_ok (T.fact 89 rfl)
theorem gi_LISTED_lots (T : Txt w K mg) : ∃ t, mg "LISTED_lots" = some (.int 2000 t) := by
  obtain ⟨h0, X, G, c⟩ := T.ex
  exact He.int_ok X G (c.t.d.facts (List.mem_of_getElem? (i := 90) rfl))
theorem lim (T : Txt w K mg) {z : Str} {n : Int} (hz : (z, He.Dv.int n) ∈ limits) : KDct K w (He.ga K "LIMITS") z (.int n) := by
  have hv := T.x 0 rfl
  obtain ⟨h0, X, G, c⟩ := T.ex
  obtain ⟨es, m, hl, hk, hs⟩ := c.t.tab 0 rfl
  obtain ⟨u, hu, hr⟩ := He.valsB_ok hv hz
  exact ⟨es, m, u, hl, hk, hu, hr⟩
theorem se (T : Txt w K mg) : SeTxt K (He.ga K "SeenError") := seB_ok (T.x 1 rfl)
theorem xt_TooMany (T : Txt w K mg) : ExT K (He.ga K "TooMany") (He.ma K (He.ga K "TooMany") "__init__") := exTB_ok (T.x 2 rfl)
theorem xn_TooMany_what (T : Txt w K mg) : PySem.W.findIn K (.ref (He.ga K "TooMany")) "what" = some none := of_decide_eq_true (T.x 3 rfl)
theorem xs_TooMany (T : Txt w K mg) : PySem.W.exmOne K (.ref (He.ga K "TooMany")) (.ref (He.ga K "SeenError")) = some true := of_decide_eq_true (T.x 4 rfl)
theorem xk_TooMany_TooMany (T : Txt w K mg) : PySem.W.kitOne K (.ref (He.ga K "TooMany")) (.ref (He.ga K "TooMany")) = some true := of_decide_eq_true (T.x 5 rfl)
theorem xk_TooMany_BadSky (T : Txt w K mg) : PySem.W.kitOne K (.ref (He.ga K "TooMany")) (.ref (He.ga K "BadSky")) = some false := of_decide_eq_true (T.x 6 rfl)
theorem xk_TooMany_BadWeather (T : Txt w K mg) : PySem.W.kitOne K (.ref (He.ga K "TooMany")) (.ref (He.ga K "BadWeather")) = some false := of_decide_eq_true (T.x 7 rfl)
theorem xk_TooMany_BadTable (T : Txt w K mg) : PySem.W.kitOne K (.ref (He.ga K "TooMany")) (.ref (He.ga K "BadTable")) = some false := of_decide_eq_true (T.x 8 rfl)
theorem xk_TooMany_BadSetting (T : Txt w K mg) : PySem.W.kitOne K (.ref (He.ga K "TooMany")) (.ref (He.ga K "BadSetting")) = some false := of_decide_eq_true (T.x 9 rfl)
theorem xv_TooMany (T : Txt w K mg) : PySem.W.kitOne K (.ref (He.ga K "TooMany")) (.type "ValueError") = some true := of_decide_eq_true (T.x 10 rfl)
theorem xt_BadSky (T : Txt w K mg) : ExT K (He.ga K "BadSky") (He.ma K (He.ga K "BadSky") "__init__") := exTB_ok (T.x 11 rfl)
theorem xn_BadSky_row (T : Txt w K mg) : PySem.W.findIn K (.ref (He.ga K "BadSky")) "row" = some none := of_decide_eq_true (T.x 12 rfl)
theorem xs_BadSky (T : Txt w K mg) : PySem.W.exmOne K (.ref (He.ga K "BadSky")) (.ref (He.ga K "SeenError")) = some true := of_decide_eq_true (T.x 13 rfl)
theorem xk_BadSky_TooMany (T : Txt w K mg) : PySem.W.kitOne K (.ref (He.ga K "BadSky")) (.ref (He.ga K "TooMany")) = some false := of_decide_eq_true (T.x 14 rfl)
theorem xk_BadSky_BadSky (T : Txt w K mg) : PySem.W.kitOne K (.ref (He.ga K "BadSky")) (.ref (He.ga K "BadSky")) = some true := of_decide_eq_true (T.x 15 rfl)
theorem xk_BadSky_BadWeather (T : Txt w K mg) : PySem.W.kitOne K (.ref (He.ga K "BadSky")) (.ref (He.ga K "BadWeather")) = some false := of_decide_eq_true (T.x 16 rfl)
theorem xk_BadSky_BadTable (T : Txt w K mg) : PySem.W.kitOne K (.ref (He.ga K "BadSky")) (.ref (He.ga K "BadTable")) = some false := of_decide_eq_true (T.x 17 rfl)
theorem xk_BadSky_BadSetting (T : Txt w K mg) : PySem.W.kitOne K (.ref (He.ga K "BadSky")) (.ref (He.ga K "BadSetting")) = some false := of_decide_eq_true (T.x 18 rfl)
theorem xv_BadSky (T : Txt w K mg) : PySem.W.kitOne K (.ref (He.ga K "BadSky")) (.type "ValueError") = some true := of_decide_eq_true (T.x 19 rfl)
theorem xt_BadWeather (T : Txt w K mg) : ExT K (He.ga K "BadWeather") (He.ma K (He.ga K "BadWeather") "__init__") := exTB_ok (T.x 20 rfl)
theorem xn_BadWeather_day (T : Txt w K mg) : PySem.W.findIn K (.ref (He.ga K "BadWeather")) "day" = some none := of_decide_eq_true (T.x 21 rfl)
theorem xs_BadWeather (T : Txt w K mg) : PySem.W.exmOne K (.ref (He.ga K "BadWeather")) (.ref (He.ga K "SeenError")) = some true := of_decide_eq_true (T.x 22 rfl)
theorem xk_BadWeather_TooMany (T : Txt w K mg) : PySem.W.kitOne K (.ref (He.ga K "BadWeather")) (.ref (He.ga K "TooMany")) = some false := of_decide_eq_true (T.x 23 rfl)
theorem xk_BadWeather_BadSky (T : Txt w K mg) : PySem.W.kitOne K (.ref (He.ga K "BadWeather")) (.ref (He.ga K "BadSky")) = some false := of_decide_eq_true (T.x 24 rfl)
theorem xk_BadWeather_BadWeather (T : Txt w K mg) : PySem.W.kitOne K (.ref (He.ga K "BadWeather")) (.ref (He.ga K "BadWeather")) = some true := of_decide_eq_true (T.x 25 rfl)
theorem xk_BadWeather_BadTable (T : Txt w K mg) : PySem.W.kitOne K (.ref (He.ga K "BadWeather")) (.ref (He.ga K "BadTable")) = some false := of_decide_eq_true (T.x 26 rfl)
theorem xk_BadWeather_BadSetting (T : Txt w K mg) : PySem.W.kitOne K (.ref (He.ga K "BadWeather")) (.ref (He.ga K "BadSetting")) = some false := of_decide_eq_true (T.x 27 rfl)
theorem xv_BadWeather (T : Txt w K mg) : PySem.W.kitOne K (.ref (He.ga K "BadWeather")) (.type "ValueError") = some true := of_decide_eq_true (T.x 28 rfl)
theorem xt_BadTable (T : Txt w K mg) : ExT K (He.ga K "BadTable") (He.ma K (He.ga K "BadTable") "__init__") := exTB_ok (T.x 29 rfl)
theorem xn_BadTable_first (T : Txt w K mg) : PySem.W.findIn K (.ref (He.ga K "BadTable")) "first" = some none := of_decide_eq_true (T.x 30 rfl)
theorem xn_BadTable_last (T : Txt w K mg) : PySem.W.findIn K (.ref (He.ga K "BadTable")) "last" = some none := of_decide_eq_true (T.x 31 rfl)
theorem xs_BadTable (T : Txt w K mg) : PySem.W.exmOne K (.ref (He.ga K "BadTable")) (.ref (He.ga K "SeenError")) = some true := of_decide_eq_true (T.x 32 rfl)
theorem xk_BadTable_TooMany (T : Txt w K mg) : PySem.W.kitOne K (.ref (He.ga K "BadTable")) (.ref (He.ga K "TooMany")) = some false := of_decide_eq_true (T.x 33 rfl)
theorem xk_BadTable_BadSky (T : Txt w K mg) : PySem.W.kitOne K (.ref (He.ga K "BadTable")) (.ref (He.ga K "BadSky")) = some false := of_decide_eq_true (T.x 34 rfl)
theorem xk_BadTable_BadWeather (T : Txt w K mg) : PySem.W.kitOne K (.ref (He.ga K "BadTable")) (.ref (He.ga K "BadWeather")) = some false := of_decide_eq_true (T.x 35 rfl)
theorem xk_BadTable_BadTable (T : Txt w K mg) : PySem.W.kitOne K (.ref (He.ga K "BadTable")) (.ref (He.ga K "BadTable")) = some true := of_decide_eq_true (T.x 36 rfl)
theorem xk_BadTable_BadSetting (T : Txt w K mg) : PySem.W.kitOne K (.ref (He.ga K "BadTable")) (.ref (He.ga K "BadSetting")) = some false := of_decide_eq_true (T.x 37 rfl)
theorem xv_BadTable (T : Txt w K mg) : PySem.W.kitOne K (.ref (He.ga K "BadTable")) (.type "ValueError") = some true := of_decide_eq_true (T.x 38 rfl)
theorem xt_BadGarden (T : Txt w K mg) : ExT K (He.ga K "BadGarden") (He.ma K (He.ga K "BadGarden") "__init__") := exTB_ok (T.x 39 rfl)
theorem xn_BadGarden_row (T : Txt w K mg) : PySem.W.findIn K (.ref (He.ga K "BadGarden")) "row" = some none := of_decide_eq_true (T.x 40 rfl)
theorem xs_BadGarden (T : Txt w K mg) : PySem.W.exmOne K (.ref (He.ga K "BadGarden")) (.ref (He.ga K "SeenError")) = some true := of_decide_eq_true (T.x 41 rfl)
theorem xk_BadGarden_TooMany (T : Txt w K mg) : PySem.W.kitOne K (.ref (He.ga K "BadGarden")) (.ref (He.ga K "TooMany")) = some false := of_decide_eq_true (T.x 42 rfl)
theorem xk_BadGarden_BadSky (T : Txt w K mg) : PySem.W.kitOne K (.ref (He.ga K "BadGarden")) (.ref (He.ga K "BadSky")) = some false := of_decide_eq_true (T.x 43 rfl)
theorem xk_BadGarden_BadWeather (T : Txt w K mg) : PySem.W.kitOne K (.ref (He.ga K "BadGarden")) (.ref (He.ga K "BadWeather")) = some false := of_decide_eq_true (T.x 44 rfl)
theorem xk_BadGarden_BadTable (T : Txt w K mg) : PySem.W.kitOne K (.ref (He.ga K "BadGarden")) (.ref (He.ga K "BadTable")) = some false := of_decide_eq_true (T.x 45 rfl)
theorem xk_BadGarden_BadSetting (T : Txt w K mg) : PySem.W.kitOne K (.ref (He.ga K "BadGarden")) (.ref (He.ga K "BadSetting")) = some false := of_decide_eq_true (T.x 46 rfl)
theorem xv_BadGarden (T : Txt w K mg) : PySem.W.kitOne K (.ref (He.ga K "BadGarden")) (.type "ValueError") = some true := of_decide_eq_true (T.x 47 rfl)
theorem tabs_nodup (T : Txt w K mg) : (tf.map fun p => (He.cT K p).2).Nodup := of_decide_eq_true (T.x 48 rfl)
theorem Txt.dl (T : Txt w K mg) (i j : Nat) {d : He.DefD} (hd : d.dfl = []) (hk : d.kwd = []) (h : fn[i]? = some d) (x : Str) (hx : d.at_ = (x, none)) (hg : fa[j]? = some (.glo x)) : ∃ f fd, FunD K d.name d.qual d.params d.body d.scope [] [] f fd ∧ mg x = some (.ref f) ∧ fd.code = .ref (He.codeOf K (x, none)) := by
  obtain ⟨h0, X, G, c⟩ := T.ex
  obtain ⟨fd, F⟩ := c.t.d.defs (List.mem_of_getElem? h)
  have e1 : d.dvs K = [] := by unfold He.DefD.dvs; rw [hd]; rfl
  have e2 : d.kws K = [] := by unfold He.DefD.kws; rw [hk]; rfl
  rw [e1, e2, hx] at F
  refine ⟨_, fd, F, He.glo_ok X G (c.t.d.facts (List.mem_of_getElem? hg)), ?_⟩
  obtain ⟨oc, od, dV, kV, doc, pm, an, cdv, ct, osl, e, lk, hcd, _, _⟩ := F.ex
  have e3 : fd.code = cdv := by rw [e]
  rw [e3]
  cases cdv with
  | ref a => rw [He.codeOf_eq lk e3]
  | _ => cases hcd
end
end K27
end
section
set_option maxRecDepth 100000
set_option maxHeartbeats 4000000
/-! the head's run proved in two parts, so that no one check holds all of it -/
namespace L2
open PySem PySem.W PySem.Calls PyProof.Rows HandSHeadRun
theorem run_parts {r : OpenRow} {q : Program} {H : Hook} {ob : SharedT → H.α} {M : Nat} {loose : List PySem.Str} {w : World}
    (hab : ∀ os : OsState, ((endF (stepQ (denQ tabQ) r.prog w) M r.prog w os).map fun s => (looksF r.prog (boot_heap w.params) s.abs, seenQ q loose (importedModules r.prog.main.body) (fun s => xlAt q [] s && recOk r.toRowW.records s) s.abs)) = some (true, openGood q loose))
    (hc : ∀ os : OsState, ((endF (stepQ (denQ tabQ) r.prog w) M r.prog w os).map fun s => ob s) = some (H.val w)) : HandSHeadRun.RunEq r q H ob M loose w := by
  intro os
  have a := hab os
  have c := hc os
  cases e : endF (stepQ (denQ tabQ) r.prog w) M r.prog w os with
  | none =>
    rw [e] at a
    cases a
  | some s =>
    rw [e] at a c
    have a' := Option.some.inj a
    have c' := Option.some.inj c
    have a1 := congrArg Prod.fst a'
    have a2 := congrArg Prod.snd a'
    show some (_, _, _) = some (_, _, _)
    rw [show looksF r.prog (boot_heap w.params) s.abs = true from a1, show seenQ q loose (importedModules r.prog.main.body) (fun s => xlAt q [] s && recOk r.toRowW.records s) s.abs = openGood q loose from a2, show ob s = H.val w from c']
end L2
end
section
set_option maxRecDepth 100000
set_option maxHeartbeats 0
namespace K27
open PySem PySem.W PySem.Calls PySem.Spec PyProof.Rows L2
abbrev R : PySem.W.OpenRow := PySem.W.OpenLaw.row PySem.Challenge.rw_seenenough_k27_stretches_tight_together
def loose1 : List PySem.Str := (["_wall", "SeenError", "TooMany", "BadSky", "BadWeather", "BadReport", "BadGarden", "BadSetting", "BadTable", "BadDay", "LIMITS"] : List PySem.Str)
def loose2 : List PySem.Str := (["check", "check_each", "check_within", "check_day", "Garden", "check_one_can", "check_weather", "all_stretches", "span_counts", "fall_counts", "key_stretches", "tight_among", "LISTED_lots", "check_stretch", "free_day", "lot_places", "placed_weather", "lot_together", "first_undecided", "slipping_garden", "fallen_row", "reports_of", "report_ascends", "rain_gap", "seen_gap"] : List PySem.Str) ++ (["rain_couple", "seen_fall", "LISTED_almanacs", "Almanac", "_law_draw_spans", "_law_can_rains", "_law_stretches", "_law_spans_in", "_law_span_table", "_law_key_list", "_law_is_tight", "_law_covered", "_law_first_covered", "_law_first_wrong", "_law_bent_weather", "_law_undecided", "_law_are_weathers", "_law_caught", "_law_stock", "_law_draw", "_law_mix", "_law_matches", "_law_deep", "_law_options", "_law_weather"] : List PySem.Str) ++ (["_law_weathers", "_law_whole", "_law_ask_lot", "_law_ask_undecided", "_law_ask_slips", "_law_lot_right", "_law_lots", "_law_bad_lot", "_law_errors_right"] : List PySem.Str)
theorem runFa (w : World) : ∀ os : PySem.OsState, ((HandSHeadRun.endF (HandSHeadRun.stepQ (HandSHeadRun.denQ HandSHeadRun.tabQ) R.prog (w.withFollow "special-get-raises" false)) 20000 R.prog (w.withFollow "special-get-raises" false) os).map fun s => (HandSHeadRun.looksF R.prog (boot_heap (World.params (w.withFollow "special-get-raises" false))) s.abs, HandSHeadRun.seenQ (PySem.W.view R.prog [79]) (loose1 ++ loose2) (importedModules R.prog.main.body) (fun s => xlAt (PySem.W.view R.prog [79]) [] s && recOk R.toRowW.records s) s.abs)) = some (true, openGood (PySem.W.view R.prog [79]) (loose1 ++ loose2)) := by
  intro os
  kernel_rfl
theorem runFc (w : World) : ∀ os : PySem.OsState, ((HandSHeadRun.endF (HandSHeadRun.stepQ (HandSHeadRun.denQ HandSHeadRun.tabQ) R.prog (w.withFollow "special-get-raises" false)) 20000 R.prog (w.withFollow "special-get-raises" false) os).map fun s => ob s) = some (PySem.W.Hook.val hk (w.withFollow "special-get-raises" false)) := by
  intro os
  kernel_rfl
theorem runF (w : World) : HandSHeadRun.RunEq R (PySem.W.view R.prog [79]) hk ob 20000 (loose1 ++ loose2) (w.withFollow "special-get-raises" false) := L2.run_parts (runFa w) (runFc w)
theorem runTa (w : World) : ∀ os : PySem.OsState, ((HandSHeadRun.endF (HandSHeadRun.stepQ (HandSHeadRun.denQ HandSHeadRun.tabQ) R.prog (w.withFollow "special-get-raises" true)) 20000 R.prog (w.withFollow "special-get-raises" true) os).map fun s => (HandSHeadRun.looksF R.prog (boot_heap (World.params (w.withFollow "special-get-raises" true))) s.abs, HandSHeadRun.seenQ (PySem.W.view R.prog [79]) (loose1 ++ loose2) (importedModules R.prog.main.body) (fun s => xlAt (PySem.W.view R.prog [79]) [] s && recOk R.toRowW.records s) s.abs)) = some (true, openGood (PySem.W.view R.prog [79]) (loose1 ++ loose2)) := by
  intro os
  kernel_rfl
theorem runTc (w : World) : ∀ os : PySem.OsState, ((HandSHeadRun.endF (HandSHeadRun.stepQ (HandSHeadRun.denQ HandSHeadRun.tabQ) R.prog (w.withFollow "special-get-raises" true)) 20000 R.prog (w.withFollow "special-get-raises" true) os).map fun s => ob s) = some (PySem.W.Hook.val hk (w.withFollow "special-get-raises" true)) := by
  intro os
  kernel_rfl
theorem runT (w : World) : HandSHeadRun.RunEq R (PySem.W.view R.prog [79]) hk ob 20000 (loose1 ++ loose2) (w.withFollow "special-get-raises" true) := L2.run_parts (runTa w) (runTc w)
theorem run (w : World) : HandSHeadRun.RunEq R (PySem.W.view R.prog [79]) hk ob 20000 (loose1 ++ loose2) w :=
  byRow2 "special-get-raises" (P := fun w => HandSHeadRun.RunEq R (PySem.W.view R.prog [79]) hk ob 20000 (loose1 ++ loose2) w) runF runT w
end K27
end
section
set_option maxRecDepth 100000
set_option maxHeartbeats 4000000
namespace L2
open PySem PySem.Spec PyProof.Rows
/-! ### heaps that grow -/
theorem same_new {H : Hp} {p : Addr} {o : HO} (h : H p = none) : Same H (upd H p o) := fun b u e => by
  rw [upd_ne (ne_of_none e h)]
  exact e
theorem same_mut {H H' : Hp} {p : Addr} {o : HO} (e : Same H H') (h : H p = none) : Same H (upd H' p o) := fun b u hb => by
  rw [upd_ne (ne_of_none hb h)]
  exact e b u hb
theorem Same.tup {K : PySem.W.Frag} {H H' : Hp} {a : Addr} {xs : List V} (e : Same H H') (h : SqT K H a xs) : SqT K H' a xs := by
  rcases h with (h | ⟨o, h⟩) | h
  · exact .inl (.inl (e _ _ h))
  · exact .inl (.inr ⟨o, e _ _ h⟩)
  · exact .inr h
/-- a new object: the heap behind it as a letter -/
theorem newly {H : Hp} {o : HO} {Q : Addr → Hp → Prop} (h : ∀ p H', H p = none → Same H H' → H' p = some o → (∀ b, b ≠ p → H' b = H b) → Q p H') : ∀ p, H p = none → Q p (upd H p o) :=
  fun p hp => h p _ hp (same_new hp) upd_same fun b hb => upd_ne hb
/-- all but what stands at a is as it was -/
def But (a : Addr) (H H' : Hp) : Prop := ∀ b o, H b = some o → b ≠ a → H' b = some o
theorem But.refl (a : Addr) (H : Hp) : But a H H := fun _ _ h _ => h
theorem But.of {a : Addr} {H H' : Hp} (e : Same H H') : But a H H' := fun b o h _ => e b o h
theorem But.trans {a : Addr} {H H1 H2 : Hp} (e : But a H H1) (f : But a H1 H2) : But a H H2 := fun b o h n => f b o (e b o h n) n
theorem But.upd {a : Addr} {H H' : Hp} {o : HO} (e : But a H H') : But a H (upd H' a o) := fun b u h n => by
  rw [upd_ne n]
  exact e b u h n
theorem But.mut {a p : Addr} {H H' : Hp} {o : HO} (e : But a H H') (h : H p = none) : But a H (L2.upd H' p o) := fun b u hb n => by
  rw [upd_ne (ne_of_none hb h)]
  exact e b u hb n
theorem But.free {a : Addr} {H H' : Hp} (e : But a H H') (ha : H' a ≠ none) {l : Addr} (h : H' l = none) : H l = none := by
  cases q : H l with
  | none => rfl
  | some o =>
    by_cases hl : l = a
    · rw [hl] at h
      exact absurd h ha
    · rw [e l o q hl] at h
      cases h
theorem lst_ne {H : Hp} {a : Addr} {o : HO} {K : PySem.W.Frag} (x : H a = some o) : H a ≠ none := by rw [x]; exact fun z => by cases z
/-! ### an own exception raised -/
def spInit (C : Addr) (f : Str) : Sp := fun vs H Q _ => ∃ (a : Addr) (v : V), vs = [.ref a, v] ∧ H a = some (exo a C none) ∧
  ∀ dx, H dx = none → dx ≠ a → Q .non (upd (upd H dx (exd dx [(f, v)])) a (exo a C (some dx)))
theorem mko {C : Addr} {f : Str} {v : V} {H : Hp} {Q : XK} (h : ∀ d, H d = none → Q (.ref C) (some d) (upd H d (.xd [(f, v)]))) : ([v] : List V).length ≤ 1000 ∧ ∀ a, H a = none → spInit C f (.ref a :: ([v] ++ [])) (upd H a (exo a C none))
    (fun u H2 => u = .non ∧ ∃ (d : Addr) (fs : List (Str × V)), H2 a = some (exo a C (some d)) ∧ H2 d = some (exd d fs) ∧ H d = none ∧ Q (.ref C) (some d) (upd (del H2 a) d (.xd fs))) (fun _ _ _ => False) := by
  refine ⟨by show 1 ≤ 1000; decide, fun a ha => ⟨a, v, rfl, upd_same, fun dx hd hne => ⟨rfl, dx, [(f, v)], upd_same, by rw [upd_ne hne, upd_same], ?_, ?_⟩⟩⟩
  · rw [upd_ne hne] at hd
    exact hd
  · have hd' : H dx = none := by rw [upd_ne hne] at hd; exact hd
    have e : upd (del (upd (upd (upd H a (exo a C none)) dx (exd dx [(f, v)])) a (exo a C (some dx))) a) dx (.xd [(f, v)]) = upd H dx (.xd [(f, v)]) := by
      funext b
      by_cases hb : b = dx
      · rw [hb, upd_same, upd_same]
      · rw [upd_ne hb, upd_ne hb]
        by_cases hba : b = a
        · rw [hba, del_same, ha]
        · rw [del_ne hba, upd_ne hba, upd_ne hb, upd_ne hba]
    rw [e]
    exact h dx hd'
/-- E is told of an error of the class at C whose field f is v -/
def Rz (E : XK) (H : Hp) (C : Addr) (f : Str) (v : V) : Prop := ∀ d H', Same H H' → H' d = some (.xd [(f, v)]) → E (.ref C) (some d) H'
theorem Rz.at {E : XK} {H H1 : Hp} {C : Addr} {f : Str} {v : V} (r : Rz E H C f v) (e : Same H H1) : ∀ d, H1 d = none → E (.ref C) (some d) (upd H1 d (.xd [(f, v)])) := fun d hd => r d _ (e.trans (same_new hd)) upd_same
/-! ### statement by statement -/
theorem nxE {t : St → Hp → Prop} {r : VK} {b c : St → Hp → Prop} {σ : St} {H : Hp} (h : t σ H) : Ends.nx ⟨t, r, b, c⟩ σ H := h
/-- x = e, then the rest -/
theorem st_let {te : TE} {i : Nat} {t2 : TS} {D : Ends} {σ : St} {H : Hp} (PV : V → Hp → Prop) (h : ∀ R : VK, (∀ v H', PV v H' → R v H') → te σ H R) (q : ∀ v H', PV v H' → t2 D (σ.set i (some v)) H') : tSeq (tAsg te (gName i)) t2 D σ H := h _ q
/-! ### numbers -/
theorem ints_get {ns : List Int} {i : Nat} {x : V} (h : (ns.map V.int)[i]? = some x) : ∃ z, ns[i]? = some z ∧ x = V.int z := by
  rw [List.getElem?_map] at h
  cases e : ns[i]? with
  | none => rw [e] at h; cases h
  | some z => rw [e] at h; exact ⟨z, rfl, (Option.some.inj h).symm⟩
theorem ints_at {ns : List Int} {i : Nat} {z : Int} (h : ns[i]? = some z) : (ns.map V.int)[i]? = some (.int z) := by rw [List.getElem?_map, h]; rfl
theorem ints_len (ns : List Int) : (ns.map V.int).length = ns.length := List.length_map _
/-- an item by an int -/
theorem atI_int {α : Type} {xs : List α} {z : Int} {v : α} (h0 : 0 ≤ z) (h : xs[z.toNat]? = some v) : atI xs z = some v := by
  have e : z = ((z.toNat : Nat) : Int) := by omega
  rw [e]
  exact atI_nat h
theorem line_of {n : Nat} (h : n ≤ 100000) : n ≤ sizeLine := Nat.le_trans h (by decide)
theorem line_lt {n : Nat} (h : n < 100000) : n < sizeLine := Nat.lt_of_lt_of_le h (by decide)
end L2
end
section
set_option maxRecDepth 100000
set_option maxHeartbeats 4000000
namespace L2
open PySem PySem.Spec PyProof.Rows
/-! ### comprehensions by what is made so far -/
section
variable {K : PySem.W.Frag} {a D : Addr} {xs : List V} {g : TG} {tt : TT} {te : TE} {vs : List Nat} {σ : St} {H1 : Hp} {Q : Hp → Prop}
theorem lc_acc (hD : H1 D = none) (hS : SqL K H1 a xs) (hz : xs.length < 100000) (Acc : Nat → List V → Hp → Prop) (h0 : ∀ H', Same H1 H' → Acc 0 [] H')
    (hs : ∀ i x acc H' (N : V → Hp → Prop) (N0 : Hp → Prop), xs[i]? = some x → Same H1 H' → H' D = some (.lst acc) → Acc i acc H' →
      (∀ y H4, Same H' H4 → (∀ H5, But D H4 H5 → H5 D = some (.lst (acc ++ [y])) → Acc (i + 1) (acc ++ [y]) H5) → N y H4) → (∀ H3, Same H' H3 → Acc (i + 1) acc H3 → N0 H3) →
      g x (wipe σ vs) H' fun σ2 H2 => wipe σ2 vs = wipe σ vs ∧ tt σ2 H2 fun b H3 => if b = true then te σ2 H3 N else N0 H3)
    (hd : ∀ acc H', Same H1 H' → H' D = some (.lst acc) → acc.length ≤ xs.length → Acc xs.length acc H' → Q H') :
    ∃ W : Nat → Nat → Hp → Prop, (∃ m, W 0 m (upd H1 D (.lst []))) ∧ ∀ i m H, W i m H →
      ((Itl K a).stop i H ∧ Q H) ∨ ((Itl K a).go i H ∧ ∃ Nx : Hp → Prop, (∀ H', Nx H' → ∃ m', m' < m ∧ W (i + 1) m' H') ∧ ∀ x H', (Itl K a).yld i H x H' → g x (wipe σ vs) H' fun σ2 H2 => wipe σ2 vs = wipe σ vs ∧ tt σ2 H2 fun b H3 =>
        if b = true then te σ2 H3 fun y H4 => ∃ acc, H4 D = some (.lst acc) ∧ acc.length < sizeLine ∧ Nx (upd H4 D (.lst (acc ++ [y]))) else Nx H3) := by
  refine lc_list (K := K) (a := a) (xs := xs) (fun i H' => Same H1 H' ∧ ∃ acc, H' D = some (.lst acc) ∧ acc.length ≤ i ∧ Acc i acc H') ⟨same_new hD, [], upd_same, Nat.le_refl _, h0 _ (same_new hD)⟩ (fun i H' _ h => h.1.seq hS) ?_ ?_
  · rintro i x H' hx ⟨e, acc, hacc, hl, ha⟩
    have hi : i < xs.length := (List.getElem?_eq_some_iff.mp hx).1
    refine hs i x acc H' _ _ hx e hacc ha (fun y H4 s4 a4 => ?_) (fun H3 s3 a3 => ?_)
    · exact ⟨acc, s4 _ _ hacc, line_lt (by omega), same_mut (e.trans s4) hD, acc ++ [y], upd_same, by rw [List.length_append]; exact Nat.succ_le_succ hl, a4 _ (fun b o hb n => by rw [upd_ne n]; exact hb) upd_same⟩
    · exact ⟨e.trans s3, acc, s3 _ _ hacc, Nat.le_succ_of_le hl, a3⟩
  · rintro H' ⟨e, acc, hacc, hl, ha⟩
    exact hd acc H' e hacc hl ha
theorem lc_accR {lo : Int} {n : Nat} (hD : H1 D = none) (hz : n < 100000) (Acc : Nat → List V → Hp → Prop) (h0 : ∀ H', Same H1 H' → Acc 0 [] H')
    (hs : ∀ i acc H' (N : V → Hp → Prop) (N0 : Hp → Prop), i < n → Same H1 H' → H' D = some (.lst acc) → Acc i acc H' →
      (∀ y H4, Same H' H4 → (∀ H5, But D H4 H5 → H5 D = some (.lst (acc ++ [y])) → Acc (i + 1) (acc ++ [y]) H5) → N y H4) → (∀ H3, Same H' H3 → Acc (i + 1) acc H3 → N0 H3) →
      g (.int (lo + i)) (wipe σ vs) H' fun σ2 H2 => wipe σ2 vs = wipe σ vs ∧ tt σ2 H2 fun b H3 => if b = true then te σ2 H3 N else N0 H3)
    (hd : ∀ acc H', Same H1 H' → H' D = some (.lst acc) → acc.length ≤ n → Acc n acc H' → Q H') :
    ∃ W : Nat → Nat → Hp → Prop, (∃ m, W 0 m (upd H1 D (.lst []))) ∧ ∀ i m H, W i m H →
      ((Itr lo n).stop i H ∧ Q H) ∨ ((Itr lo n).go i H ∧ ∃ Nx : Hp → Prop, (∀ H', Nx H' → ∃ m', m' < m ∧ W (i + 1) m' H') ∧ ∀ x H', (Itr lo n).yld i H x H' → g x (wipe σ vs) H' fun σ2 H2 => wipe σ2 vs = wipe σ vs ∧ tt σ2 H2 fun b H3 =>
        if b = true then te σ2 H3 fun y H4 => ∃ acc, H4 D = some (.lst acc) ∧ acc.length < sizeLine ∧ Nx (upd H4 D (.lst (acc ++ [y]))) else Nx H3) := by
  refine lc_range (lo := lo) (n := n) (fun i H' => Same H1 H' ∧ ∃ acc, H' D = some (.lst acc) ∧ acc.length ≤ i ∧ Acc i acc H') ⟨same_new hD, [], upd_same, Nat.le_refl _, h0 _ (same_new hD)⟩ ?_ ?_
  · rintro i H' hi ⟨e, acc, hacc, hl, ha⟩
    refine hs i acc H' _ _ hi e hacc ha (fun y H4 s4 a4 => ?_) (fun H3 s3 a3 => ?_)
    · exact ⟨acc, s4 _ _ hacc, line_lt (by omega), same_mut (e.trans s4) hD, acc ++ [y], upd_same, by rw [List.length_append]; exact Nat.succ_le_succ hl, a4 _ (fun b o hb n => by rw [upd_ne n]; exact hb) upd_same⟩
    · exact ⟨e.trans s3, acc, s3 _ _ hacc, Nat.le_succ_of_le hl, a3⟩
  · rintro H' ⟨e, acc, hacc, hl, ha⟩
    exact hd acc H' e hacc hl ha
end
theorem cutV_map {α : Type} (f : α → V) (ns : List α) (lo hi : Option Int) : ∃ ms : List α, cutV (ns.map f) lo hi = ms.map f ∧ ms = (ns.drop (HT.sIx ns.length 0 lo)).take (HT.sIx ns.length ns.length hi - HT.sIx ns.length 0 lo) := by
  refine ⟨_, ?_, rfl⟩
  unfold cutV
  rw [List.length_map, List.map_take, List.map_drop]
end L2
end
section
set_option maxRecDepth 100000
set_option maxHeartbeats 4000000
namespace L2
open PySem PySem.Spec PyProof.Rows
/-- for i, x in enumerate(list, start = k) -/
theorem for_enumS {K : PySem.W.Frag} {a : Addr} {xs : List V} {k : Int} {g : TG} {tb : TS} {D : Ends} {σ : St} {H : Hp} (Pv : Nat → St → Hp → Prop) (h0 : Pv 0 σ H) (hl : ∀ i σ H, i ≤ xs.length → Pv i σ H → SqL K H a xs)
    (hs : ∀ i x σ H T, xs[i]? = some x → Pv i σ H → H T = none → g (.ref T) σ (upd H T (.tup [.int (k + (i : Nat)), x])) fun σ2 H2 => tb { D with nx := Pv (i + 1), ct := Pv (i + 1), bk := D.nx } σ2 H2) (hd : ∀ σ H, Pv xs.length σ H → D.nx σ H) :
    ∃ W : Nat → Nat → St → Hp → Prop, (∃ m, W 0 m σ H) ∧ ∀ i m σ H, W i m σ H →
      ((IteS K a k).stop i H ∧ D.nx σ H) ∨ ((IteS K a k).go i H ∧ ∃ N : St → Hp → Prop, (∀ σ' H', N σ' H' → ∃ m', m' < m ∧ W (i + 1) m' σ' H') ∧ ∀ x H', (IteS K a k).yld i H x H' → g x σ H' fun σ2 H2 => tb { D with nx := N, ct := N, bk := D.nx } σ2 H2) := by
  refine ⟨fun i m σ H => m = xs.length - i ∧ i ≤ xs.length ∧ Pv i σ H, ⟨_, rfl, Nat.zero_le _, h0⟩, fun i m σ H w => ?_⟩
  obtain ⟨rfl, hi, p⟩ := w
  have q := hl i σ H hi p
  rcases Nat.lt_or_ge i xs.length with hlt | hge
  · refine .inr ⟨⟨xs, _, q, List.getElem?_eq_getElem hlt⟩, Pv (i + 1), fun σ' H' p' => ⟨xs.length - (i + 1), by omega, rfl, hlt, p'⟩, ?_⟩
    rintro x H' ⟨T, y, rfl, hT, rfl, hy⟩
    exact hs i y σ H T (hy xs q) p hT
  · have e : i = xs.length := by omega
    subst e
    exact .inl ⟨⟨xs, q, Nat.le_refl _⟩, hd σ H p⟩
theorem drop_get {α : Type} {l : List α} {i : Nat} {x : α} (h : l[i]? = some x) : l.drop i = x :: l.drop (i + 1) := by
  obtain ⟨hi, e⟩ := List.getElem?_eq_some_iff.mp h
  rw [List.drop_eq_getElem_cons hi, e]
theorem take_get {α : Type} {l : List α} {i : Nat} {x : α} (h : l[i]? = some x) : l.take (i + 1) = l.take i ++ [x] := by
  rw [List.take_succ, h]; rfl
/-! ### a pair of ints, list or tuple -/
def PairR (K : PySem.W.Frag) (H : Hp) (x : V) (c : Int × Int) : Prop := ∃ t, x = .ref t ∧ (SqT K H t [.int c.1, .int c.2] ∨ SqL K H t [.int c.1, .int c.2])
def PairsR (K : PySem.W.Frag) (H : Hp) : List V → List (Int × Int) → Prop := Paired (PairR K H)
theorem PairR.same {K : PySem.W.Frag} {H H' : Hp} (e : Same H H') {x : V} {c : Int × Int} (h : PairR K H x c) : PairR K H' x c := by
  obtain ⟨t, rfl, h | h⟩ := h
  · exact ⟨t, rfl, .inl (e.tup h)⟩
  · exact ⟨t, rfl, .inr (e.seq h)⟩
theorem PairsR.same {K : PySem.W.Frag} {H H' : Hp} (e : Same H H') {xs : List V} {cs : List (Int × Int)} (h : PairsR K H xs cs) : PairsR K H' xs cs := Paired.mapP h fun _ _ z => z.same e
theorem PairsR.get {K : PySem.W.Frag} {H : Hp} {xs : List V} {cs : List (Int × Int)} (h : PairsR K H xs cs) {i : Nat} {x : V} (hx : xs[i]? = some x) : ∃ c, cs[i]? = some c ∧ PairR K H x c := paired_get h hx
theorem PairsR.len {K : PySem.W.Frag} {H : Hp} {xs : List V} {cs : List (Int × Int)} (h : PairsR K H xs cs) : xs.length = cs.length := Paired.length h
/-- x[0], x[1] of such -/
theorem PairR.ix0 {K : PySem.W.Frag} {H : Hp} {x : V} {c : Int × Int} (h : PairR K H x c) {Q : VK} (q : Q (.int c.1) H) : rIx K x (.int 0) H Q := by
  obtain ⟨t, rfl, h | h⟩ := h
  · exact .inr (.inl ⟨t, _, 0, _, rfl, rfl, h, rfl, q⟩)
  · exact .inl ⟨t, _, 0, _, rfl, rfl, h, rfl, q⟩
theorem PairR.ix1 {K : PySem.W.Frag} {H : Hp} {x : V} {c : Int × Int} (h : PairR K H x c) {Q : VK} (q : Q (.int c.2) H) : rIx K x (.int 1) H Q := by
  obtain ⟨t, rfl, h | h⟩ := h
  · exact .inr (.inl ⟨t, _, 1, _, rfl, rfl, h, rfl, q⟩)
  · exact .inl ⟨t, _, 1, _, rfl, rfl, h, rfl, q⟩
/-- the slots behind a, b = such -/
theorem PairR.unpack {K : PySem.W.Frag} {H : Hp} {x : V} {c : Int × Int} (h : PairR K H x c) {σ : St} {i j : Nat} {Q : St → Hp → Prop} (q : Q ((σ.set i (some (.int c.1))).set j (some (.int c.2))) H) : gSeq K 2 (gCons (gName i) (gCons (gName j) gNil)) x σ H Q := by
  obtain ⟨t, rfl, h | h⟩ := h
  · exact .inl ⟨t, _, rfl, h, rfl, _, _, rfl, _, _, rfl, rfl, q⟩
  · exact .inr ⟨t, _, rfl, h, rfl, _, _, rfl, _, _, rfl, rfl, q⟩
end L2
namespace L2
open PySem PySem.Spec PyProof.Rows
/-! ### rules with the written part named (within comprehensions) -/
section
variable {X : Cx} {K : PySem.W.Frag}
theorem ix_seqK (h : X.K = K) : IxR X (rIx K) := h ▸ ix_seq
theorem ix_listK (h : X.K = K) : IxR X (rIxL K) := h ▸ ix_list
theorem ix_tupK (h : X.K = K) : IxR X (rIxT K) := h ▸ ix_tup
theorem get_listK (h : X.K = K) : PGet X (rIxL K) := h ▸ get_list
theorem len_seqK (h : X.K = K) : CallR X (.builtin "len") (fun xs H Q => ∃ p ys, xs = [.ref p] ∧ (SqL K H p ys ∨ SqT K H p ys) ∧ Q (.int ys.length) H) := h ▸ call_len_seq
theorem list_ofK (h : X.K = K) : CallR X (.type "list") (fun xs H Q => ∃ p ys, xs = [.ref p] ∧ (SqL K H p ys ∨ SqT K H p ys) ∧ ∀ l, H l = none → Q (.ref l) (upd H l (.lst ys))) := h ▸ call_list_of
theorem anyK (h : X.K = K) (hc : X.calm = true) : CallR X (.builtin "any") (rAny K) := h ▸ cr_any hc
theorem sumK (h : X.K = K) (hc : X.calm = true) : CallR X (.builtin "sum") (rSum K) := h ▸ cr_sum hc
theorem maxK (h : X.K = K) (hc : X.calm = true) : CallR X (.builtin "max") (rMax K) := h ▸ cr_max hc
theorem minK (h : X.K = K) (hc : X.calm = true) : CallR X (.builtin "min") (rMin K) := h ▸ cr_min hc
theorem sl_listK (h : X.K = K) : SlR X (rSlL K) := h ▸ sl_list
theorem eqDK (h : X.K = K) (hu : X.A.units + 64 < cLine) : OpR X (compareOp .Eq) (rEqD K) := h ▸ op_eqD hu
theorem neDK (h : X.K = K) (hu : X.A.units + 64 < cLine) : OpR X (compareOp .NotEq) (rNeD K) := h ▸ op_neD hu
theorem isiK (h : X.K = K) : CallR X (.builtin "isinstance") (rIsi K) := h ▸ call_isi
theorem isiTK (h : X.K = K) : CallR X (.builtin "isinstance") (rIsiT K) := h ▸ call_isiT
theorem pg_tupK {pos : Pos} {es : List Expr} {k : Nat} {t : TGs} {n : Nat} (e : X.K = K) (hc : X.calm = true) (h : PGs X es t)
    (hn : (assignEach es X.env).length = n := by rfl) (hst : (assignEach es X.env).findIdx? (·.1) = none := by rfl) : PG X (.Tuple es k pos) (gTup K n t) := e ▸ pg_tup hc h hn hst
theorem pg_seqK {pos : Pos} {es : List Expr} {k : Nat} {t : TGs} {n : Nat} (e : X.K = K) (hc : X.calm = true) (h : PGs X es t)
    (hn : (assignEach es X.env).length = n := by rfl) (hst : (assignEach es X.env).findIdx? (·.1) = none := by rfl) : PG X (.Tuple es k pos) (gSeq K n t) := e ▸ pg_seq hc h hn hst
theorem pi_listK {tg e : Expr} {te : TE} (h : X.K = K) (he : PE X e te) : PI X tg e (iList K te) := h ▸ pi_list he
end
end L2
namespace L2
open PySem PySem.Spec PyProof.Rows
theorem for_upto {lo : Int} {n L : Nat} {g : TG} {tb : TS} {D : Ends} {σ : St} {H : Hp} (hn : n = L) (Pv : Nat → St → Hp → Prop) (h0 : Pv 0 σ H)
    (hs : ∀ i σ H, i < L → Pv i σ H → g (.int (lo + i)) σ H fun σ2 H2 => tb { D with nx := Pv (i + 1), ct := Pv (i + 1), bk := D.nx } σ2 H2) (hd : ∀ σ H, Pv L σ H → D.nx σ H) :
    ∃ W : Nat → Nat → St → Hp → Prop, (∃ m, W 0 m σ H) ∧ ∀ i m σ H, W i m σ H →
      ((Itr lo n).stop i H ∧ D.nx σ H) ∨ ((Itr lo n).go i H ∧ ∃ N : St → Hp → Prop, (∀ σ' H', N σ' H' → ∃ m', m' < m ∧ W (i + 1) m' σ' H') ∧ ∀ x H', (Itr lo n).yld i H x H' → g x σ H' fun σ2 H2 => tb { D with nx := N, ct := N, bk := D.nx } σ2 H2) := by
  subst hn
  exact for_range Pv h0 hs hd
theorem ints_ix {ns : List Int} {i : Nat} (h : i < ns.length) : ∃ z, ns[i]? = some z := ⟨_, List.getElem?_eq_getElem h⟩
end L2
end
section
set_option maxRecDepth 100000
set_option maxHeartbeats 4000000
namespace L2
open PySem PySem.Spec PyProof.Rows
theorem cut_take (xs : List V) {z : Int} {k : Nat} (h : z = (k : Int)) : cutV xs none (some z) = xs.take k := by
  subst h
  unfold cutV
  rw [HT.sIx_nat, HT.sIx_none, List.drop_zero, Nat.sub_zero]
  rcases Nat.le_total k xs.length with h | h
  · rw [Nat.min_eq_left h]
  · rw [Nat.min_eq_right h, List.take_length, List.take_of_length_le h]
theorem cut_drop (xs : List V) {z : Int} {k : Nat} (h : z = (k : Int)) : cutV xs (some z) none = xs.drop k := by
  subst h
  unfold cutV
  rw [HT.sIx_nat, HT.sIx_none]
  rcases Nat.le_total k xs.length with h | h
  · rw [Nat.min_eq_left h, List.take_of_length_le]
    rw [List.length_drop]; omega
  · rw [Nat.min_eq_right h, List.drop_length, List.drop_of_length_le h]
    exact List.take_nil
/-- x[i:] of a list, as slicing of what stands there -/
theorem map_take {α : Type} (f : α → V) (ns : List α) (k : Nat) : (ns.map f).take k = (ns.take k).map f := List.map_take.symm
theorem map_drop {α : Type} (f : α → V) (ns : List α) (k : Nat) : (ns.map f).drop k = (ns.drop k).map f := List.map_drop.symm
theorem max_eq {ns : List Int} {m m' : Int} (h : m ∈ ns) (hm : ∀ y ∈ ns, y ≤ m) (h' : m' ∈ ns) (hm' : ∀ y ∈ ns, y ≤ m') : m = m' := Int.le_antisymm (hm' _ h) (hm _ h')
theorem PairR.unpackN {K : PySem.W.Frag} {H : Hp} {x : V} {c : Int × Int} (h : PairR K H x c) {σ : St} {i j n : Nat} (hn : n = 2) {Q : St → Hp → Prop} (q : Q ((σ.set i (some (.int c.1))).set j (some (.int c.2))) H) : gSeq K n (gCons (gName i) (gCons (gName j) gNil)) x σ H Q := by
  subst hn
  exact h.unpack q
section
variable {K : PySem.W.Frag} {D : Addr} {g : TG} {tt : TT} {te : TE} {vs : List Nat} {σ : St} {H1 : Hp} {Q : Hp → Prop}
theorem lc_upto {lo : Int} {n L : Nat} (hn : n = L) (hD : H1 D = none) (hz : L < 100000) (Acc : Nat → List V → Hp → Prop) (h0 : ∀ H', Same H1 H' → Acc 0 [] H')
    (hs : ∀ i acc H' (N : V → Hp → Prop) (N0 : Hp → Prop), i < L → Same H1 H' → H' D = some (.lst acc) → Acc i acc H' →
      (∀ y H4, Same H' H4 → (∀ H5, But D H4 H5 → H5 D = some (.lst (acc ++ [y])) → Acc (i + 1) (acc ++ [y]) H5) → N y H4) → (∀ H3, Same H' H3 → Acc (i + 1) acc H3 → N0 H3) →
      g (.int (lo + i)) (wipe σ vs) H' fun σ2 H2 => wipe σ2 vs = wipe σ vs ∧ tt σ2 H2 fun b H3 => if b = true then te σ2 H3 N else N0 H3)
    (hd : ∀ acc H', Same H1 H' → H' D = some (.lst acc) → acc.length ≤ L → Acc L acc H' → Q H') :
    ∃ W : Nat → Nat → Hp → Prop, (∃ m, W 0 m (upd H1 D (.lst []))) ∧ ∀ i m H, W i m H →
      ((Itr lo n).stop i H ∧ Q H) ∨ ((Itr lo n).go i H ∧ ∃ Nx : Hp → Prop, (∀ H', Nx H' → ∃ m', m' < m ∧ W (i + 1) m' H') ∧ ∀ x H', (Itr lo n).yld i H x H' → g x (wipe σ vs) H' fun σ2 H2 => wipe σ2 vs = wipe σ vs ∧ tt σ2 H2 fun b H3 =>
        if b = true then te σ2 H3 fun y H4 => ∃ acc, H4 D = some (.lst acc) ∧ acc.length < sizeLine ∧ Nx (upd H4 D (.lst (acc ++ [y]))) else Nx H3) := by
  subst hn
  exact lc_accR hD hz Acc h0 hs hd
end
/-! ### what stands elsewhere than at a -/
section
variable {K : PySem.W.Frag} {sa : Addr} {H H' : Hp}
theorem But.seq (e : But sa H H') {a : Addr} {xs : List V} (n : a ≠ sa) (h : SqL K H a xs) : SqL K H' a xs := by
  rcases h with (h | ⟨o, h⟩) | h
  · exact .inl (.inl (e _ _ h n))
  · exact .inl (.inr ⟨o, e _ _ h n⟩)
  · exact .inr h
theorem But.tup (e : But sa H H') {a : Addr} {xs : List V} (n : a ≠ sa) (h : SqT K H a xs) : SqT K H' a xs := by
  rcases h with (h | ⟨o, h⟩) | h
  · exact .inl (.inl (e _ _ h n))
  · exact .inl (.inr ⟨o, e _ _ h n⟩)
  · exact .inr h
theorem Same.but (e : Same H H') : But sa H H' := But.of e
theorem PairR.but (e : But sa H H') {x : V} {c : Int × Int} (n : x ≠ .ref sa) (h : PairR K H x c) : PairR K H' x c := by
  obtain ⟨t, rfl, h | h⟩ := h
  · exact ⟨t, rfl, .inl (e.tup (fun z => n (by rw [z])) h)⟩
  · exact ⟨t, rfl, .inr (e.seq (fun z => n (by rw [z])) h)⟩
/-- such, none of them at D -/
def PairD (K : PySem.W.Frag) (D : Addr) (H : Hp) (x : V) (c : Int × Int) : Prop := PairR K H x c ∧ x ≠ .ref D
def PairsD (K : PySem.W.Frag) (D : Addr) (H : Hp) : List V → List (Int × Int) → Prop := Paired (PairD K D H)
theorem PairsD.but {D : Addr} (e : But D H H') {xs : List V} {cs : List (Int × Int)} (h : PairsD K D H xs cs) : PairsD K D H' xs cs := Paired.mapP h fun _ _ z => ⟨z.1.but e z.2, z.2⟩
theorem PairsD.same {D : Addr} (e : Same H H') {xs : List V} {cs : List (Int × Int)} (h : PairsD K D H xs cs) : PairsD K D H' xs cs := Paired.mapP h fun _ _ z => ⟨z.1.same e, z.2⟩
theorem PairsD.prs {D : Addr} {xs : List V} {cs : List (Int × Int)} (h : PairsD K D H xs cs) : PairsR K H xs cs := Paired.mapP h fun _ _ z => z.1
theorem paired_snoc {α β : Type} {R : α → β → Prop} {xs : List α} {ys : List β} {x : α} {y : β} (h : Paired R xs ys) (r : R x y) : Paired R (xs ++ [x]) (ys ++ [y]) := by
  induction h with
  | nil => exact .cons r .nil
  | cons a _ ih => exact .cons a ih
theorem PairsR.but (e : But sa H H') {xs : List V} {cs : List (Int × Int)} (n : ∀ x ∈ xs, x ≠ .ref sa) (h : PairsR K H xs cs) : PairsR K H' xs cs := by
  induction h with
  | nil => exact .nil
  | cons a _ ih => exact .cons (a.but e (n _ List.mem_cons_self)) (ih fun x hx => n x (List.mem_cons_of_mem _ hx))
theorem paired_app {α β : Type} {R : α → β → Prop} {xs xs' : List α} {ys ys' : List β} (h : Paired R xs ys) (h' : Paired R xs' ys') : Paired R (xs ++ xs') (ys ++ ys') := by
  induction h with
  | nil => exact h'
  | cons a _ ih => exact .cons a ih
end
section
variable {K : PySem.W.Frag} {a D sa : Addr} {xs : List V} {g : TG} {tt : TT} {te : TE} {vs : List Nat} {σ : St} {H1 : Hp} {Q : Hp → Prop}
/-- a comprehension whose element changes what stands at sa -/
theorem lc_accB (hD : H1 D = none) (hsa : H1 sa ≠ none) (ha : a ≠ sa) (hS : SqL K H1 a xs) (hz : xs.length < 100000) (Acc : Nat → List V → Hp → Prop) (h0 : ∀ H', Same H1 H' → Acc 0 [] H')
    (hs : ∀ i x acc H' (N : V → Hp → Prop) (N0 : Hp → Prop), xs[i]? = some x → But sa H1 H' → H' D = some (.lst acc) → Acc i acc H' →
      (∀ y H4, But sa H' H4 → (∀ H5, But D H4 H5 → H5 D = some (.lst (acc ++ [y])) → Acc (i + 1) (acc ++ [y]) H5) → N y H4) → (∀ H3, But sa H' H3 → Acc (i + 1) acc H3 → N0 H3) →
      g x (wipe σ vs) H' fun σ2 H2 => wipe σ2 vs = wipe σ vs ∧ tt σ2 H2 fun b H3 => if b = true then te σ2 H3 N else N0 H3)
    (hd : ∀ acc H', But sa H1 H' → H' D = some (.lst acc) → acc.length ≤ xs.length → Acc xs.length acc H' → Q H') :
    ∃ W : Nat → Nat → Hp → Prop, (∃ m, W 0 m (upd H1 D (.lst []))) ∧ ∀ i m H, W i m H →
      ((Itl K a).stop i H ∧ Q H) ∨ ((Itl K a).go i H ∧ ∃ Nx : Hp → Prop, (∀ H', Nx H' → ∃ m', m' < m ∧ W (i + 1) m' H') ∧ ∀ x H', (Itl K a).yld i H x H' → g x (wipe σ vs) H' fun σ2 H2 => wipe σ2 vs = wipe σ vs ∧ tt σ2 H2 fun b H3 =>
        if b = true then te σ2 H3 fun y H4 => ∃ acc, H4 D = some (.lst acc) ∧ acc.length < sizeLine ∧ Nx (upd H4 D (.lst (acc ++ [y]))) else Nx H3) := by
  have hDs : D ≠ sa := fun z => hsa (z ▸ hD)
  refine lc_list (K := K) (a := a) (xs := xs) (fun i H' => But sa H1 H' ∧ ∃ acc, H' D = some (.lst acc) ∧ acc.length ≤ i ∧ Acc i acc H') ⟨But.of (same_new hD), [], upd_same, Nat.le_refl _, h0 _ (same_new hD)⟩ (fun i H' _ h => h.1.seq ha hS) ?_ ?_
  · rintro i x H' hx ⟨e, acc, hacc, hl, ha'⟩
    have hi : i < xs.length := (List.getElem?_eq_some_iff.mp hx).1
    refine hs i x acc H' _ _ hx e hacc ha' (fun y H4 s4 a4 => ?_) (fun H3 s3 a3 => ?_)
    · exact ⟨acc, s4 _ _ hacc hDs, line_lt (by omega), (e.trans s4).mut hD, acc ++ [y], upd_same, by rw [List.length_append]; exact Nat.succ_le_succ hl, a4 _ (fun b o hb n => by rw [upd_ne n]; exact hb) upd_same⟩
    · exact ⟨e.trans s3, acc, s3 _ _ hacc hDs, Nat.le_succ_of_le hl, a3⟩
  · rintro H' ⟨e, acc, hacc, hl, ha'⟩
    exact hd acc H' e hacc hl ha'
theorem lc_uptoB {lo : Int} {n L : Nat} (hn : n = L) (hD : H1 D = none) (hsa : H1 sa ≠ none) (hz : L < 100000) (Acc : Nat → List V → Hp → Prop) (h0 : ∀ H', Same H1 H' → Acc 0 [] H')
    (hs : ∀ i acc H' (N : V → Hp → Prop) (N0 : Hp → Prop), i < L → But sa H1 H' → H' D = some (.lst acc) → Acc i acc H' →
      (∀ y H4, But sa H' H4 → (∀ H5, But D H4 H5 → H5 D = some (.lst (acc ++ [y])) → Acc (i + 1) (acc ++ [y]) H5) → N y H4) → (∀ H3, But sa H' H3 → Acc (i + 1) acc H3 → N0 H3) →
      g (.int (lo + i)) (wipe σ vs) H' fun σ2 H2 => wipe σ2 vs = wipe σ vs ∧ tt σ2 H2 fun b H3 => if b = true then te σ2 H3 N else N0 H3)
    (hd : ∀ acc H', But sa H1 H' → H' D = some (.lst acc) → acc.length ≤ L → Acc L acc H' → Q H') :
    ∃ W : Nat → Nat → Hp → Prop, (∃ m, W 0 m (upd H1 D (.lst []))) ∧ ∀ i m H, W i m H →
      ((Itr lo n).stop i H ∧ Q H) ∨ ((Itr lo n).go i H ∧ ∃ Nx : Hp → Prop, (∀ H', Nx H' → ∃ m', m' < m ∧ W (i + 1) m' H') ∧ ∀ x H', (Itr lo n).yld i H x H' → g x (wipe σ vs) H' fun σ2 H2 => wipe σ2 vs = wipe σ vs ∧ tt σ2 H2 fun b H3 =>
        if b = true then te σ2 H3 fun y H4 => ∃ acc, H4 D = some (.lst acc) ∧ acc.length < sizeLine ∧ Nx (upd H4 D (.lst (acc ++ [y]))) else Nx H3) := by
  subst hn
  have hDs : D ≠ sa := fun z => hsa (z ▸ hD)
  refine lc_range (lo := lo) (n := n) (fun i H' => But sa H1 H' ∧ ∃ acc, H' D = some (.lst acc) ∧ acc.length ≤ i ∧ Acc i acc H') ⟨But.of (same_new hD), [], upd_same, Nat.le_refl _, h0 _ (same_new hD)⟩ ?_ ?_
  · rintro i H' hi ⟨e, acc, hacc, hl, ha'⟩
    refine hs i acc H' _ _ hi e hacc ha' (fun y H4 s4 a4 => ?_) (fun H3 s3 a3 => ?_)
    · exact ⟨acc, s4 _ _ hacc hDs, line_lt (by omega), (e.trans s4).mut hD, acc ++ [y], upd_same, by rw [List.length_append]; exact Nat.succ_le_succ hl, a4 _ (fun b o hb n => by rw [upd_ne n]; exact hb) upd_same⟩
    · exact ⟨e.trans s3, acc, s3 _ _ hacc hDs, Nat.le_succ_of_le hl, a3⟩
  · rintro H' ⟨e, acc, hacc, hl, ha'⟩
    exact hd acc H' e hacc hl ha'
end
theorem seq_via {t u : TS} {D : Ends} {σ : St} {H : Hp} (C : St → Hp → Prop) (h : ∀ U : St → Hp → Prop, (∀ σ' H', C σ' H' → U σ' H') → t { D with nx := U } σ H) (h2 : ∀ σ' H', C σ' H' → u D σ' H') : tSeq t u D σ H := h (u D) h2
section
variable {X : Cx} {K : PySem.W.Frag} {tg e : Expr} {w1 w2 : TI}
def iOr (w1 w2 : TI) : TI := fun σ H R => w1 σ H R ∨ w2 σ H R
theorem pi_or (h1 : PI X tg e w1) (h2 : PI X tg e w2) : PI X tg e (iOr w1 w2) := ⟨fun pins s σ H R I h => h.elim (h1.run pins s σ H R I) (h2.run pins s σ H R I)⟩
theorem pi_tupK {te : TE} (h : X.K = K) (he : PE X e te) : PI X tg e (iTup K te) := h ▸ pi_tup he
end
end L2
end
section
set_option maxRecDepth 100000
set_option maxHeartbeats 4000000
namespace L2
open PySem PySem.Spec PyProof.Rows
/-! ### plain data, compared with itself -/
theorem dpall_ints {K : PySem.W.Frag} {H : Hp} : ∀ ns : List Int, DpAll K H (ns.map V.int) (ns.map PyData.int)
  | [] => .nil
  | n :: t => .cons (.int n) (dpall_ints t)
theorem dp_ints {K : PySem.W.Frag} {H : Hp} {a : Addr} {ns : List Int} (h : SqL K H a (ns.map V.int)) : Dp K H (.ref a) (.list (ns.map PyData.int)) := .lst h (dpall_ints ns)
theorem canLay_of {d : PyData} (h : SeqAt.shaped d = true) : d.canLay0 = true := (Bool.and_eq_true_iff.mp h).1
theorem eqv_self {d : PyData} (h : SeqAt.shaped d = true) : PyData.eqv d d = true := SeqAt.eqv_refl d (canLay_of h)
theorem shaped_nums (ns : List Int) : SeqAt.shaped (.list (ns.map PyData.int)) = true := PySem.W.shaped_ints ns
end L2
end
section
set_option maxRecDepth 100000
set_option maxHeartbeats 4000000
namespace L2
open PySem PySem.Spec PyProof.Rows
/-! ### pairs of ints, each a list or a tuple, as data -/
abbrev G3 : Type := Bool × Int × Int
def dG (g : G3) : PyData := if g.1 = true then .list [.int g.2.1, .int g.2.2] else .tuple [.int g.2.1, .int g.2.2]
def datG (gs : List G3) : PyData := .list (gs.map dG)
def Sm (n : Int) : Prop := 0 ≤ n ∧ n < 4294967296
theorem sm_log {n : Int} (h : Sm n) : n.natAbs.log2 ≤ 32 := by
  obtain ⟨h0, h1⟩ := h
  by_cases z : n.natAbs = 0
  · rw [z]; decide
  · exact Nat.le_of_lt_succ ((Nat.log2_lt z).mpr (by omega))
theorem sm_short {n : Int} (h : Sm n) : ((PyData.int n).shown).length ≤ 13 := PyData.shown_int_le2 (by have := h.1; omega) (by have := h.2; omega)
theorem sm_show {n : Int} (h : Sm n) : (PyData.int n).showable = true := by
  have := sm_log h
  unfold PyData.showable
  exact decide_eq_true (by omega)
theorem sm_weight {n : Int} (h : Sm n) : (PyData.int n).weight ≤ 33 := by
  have := sm_log h
  unfold PyData.weight
  split <;> omega
structure GoodD (d : PyData) (dp wt : Nat) : Prop where
  show_ : d.showable = true
  dict : d.hasDict = false
  depth : d.depth ≤ dp
  lay : d.canLay0 = true
  weight : d.weight ≤ wt
  short : d.intsShort 13 = true
theorem good_int {n : Int} (h : Sm n) : GoodD (.int n) 0 33 := ⟨sm_show h, by unfold PyData.hasDict; rfl, by unfold PyData.depth; exact Nat.le_refl _, by unfold PyData.canLay0; rfl, sm_weight h, by unfold PyData.intsShort; exact decide_eq_true (sm_short h)⟩
structure GoodA (ds : List PyData) (dp wt : Nat) : Prop where
  show_ : PyData.showableAll ds = true
  dict : PyData.hasDictAll ds = false
  depth : PyData.depthAll ds ≤ dp
  lay : PyData.canLayAll0 ds = true
  weight : PyData.weightAll ds ≤ wt * ds.length
  short : PyData.intsShortAll 13 ds = true
theorem good_all {dp wt : Nat} : ∀ ds : List PyData, (∀ d ∈ ds, GoodD d dp wt) → GoodA ds dp (wt + 1)
  | [], _ => ⟨by unfold PyData.showableAll; rfl, by unfold PyData.hasDictAll; rfl, by unfold PyData.depthAll; exact Nat.zero_le _, by unfold PyData.canLayAll0; rfl, by unfold PyData.weightAll; exact Nat.zero_le _, by unfold PyData.intsShortAll; rfl⟩
  | d :: t, h => by
    have hd := h d List.mem_cons_self
    have ht := good_all t fun e he => h e (List.mem_cons_of_mem _ he)
    refine ⟨by unfold PyData.showableAll; rw [hd.show_, ht.show_]; rfl, by unfold PyData.hasDictAll; rw [hd.dict, ht.dict]; rfl, by unfold PyData.depthAll; have := hd.depth; have := ht.depth; omega, by unfold PyData.canLayAll0; rw [hd.lay, ht.lay]; rfl, ?_, by unfold PyData.intsShortAll; rw [hd.short, ht.short]; rfl⟩
    unfold PyData.weightAll
    have h1 := hd.weight
    have h2 := ht.weight
    rw [List.length_cons, Nat.mul_succ]
    omega
theorem GoodA.list {ds : List PyData} {dp wt : Nat} (h : GoodA ds dp wt) : GoodD (.list ds) (dp + 1) (wt * ds.length) :=
  ⟨by unfold PyData.showable; exact h.show_, by unfold PyData.hasDict; exact h.dict, by unfold PyData.depth; exact Nat.succ_le_succ h.depth, by unfold PyData.canLay0; exact h.lay, by unfold PyData.weight; exact h.weight, by unfold PyData.intsShort; exact h.short⟩
theorem GoodA.tuple {ds : List PyData} {dp wt : Nat} (h : GoodA ds dp wt) : GoodD (.tuple ds) (dp + 1) (wt * ds.length) :=
  ⟨by unfold PyData.showable; exact h.show_, by unfold PyData.hasDict; exact h.dict, by unfold PyData.depth; exact Nat.succ_le_succ h.depth, by unfold PyData.canLay0; exact h.lay, by unfold PyData.weight; exact h.weight, by unfold PyData.intsShort; exact h.short⟩
theorem good_dG {g : G3} (h1 : Sm g.2.1) (h2 : Sm g.2.2) : GoodD (dG g) 1 68 := by
  have ha : GoodA [PyData.int g.2.1, PyData.int g.2.2] 0 34 := good_all _ fun d hd => by
    rcases List.mem_cons.mp hd with rfl | hd
    · exact good_int h1
    · rw [List.mem_singleton.mp hd]; exact good_int h2
  unfold dG
  split
  · exact ha.list
  · exact ha.tuple
theorem good_datG {gs : List G3} (h : ∀ g ∈ gs, Sm g.2.1 ∧ Sm g.2.2) : GoodD (datG gs) 2 (69 * gs.length) := by
  have := (good_all (gs.map dG) fun d hd => by
    obtain ⟨g, hg, rfl⟩ := List.mem_map.mp hd
    exact good_dG (h g hg).1 (h g hg).2).list
  rw [List.length_map] at this
  exact this
theorem GoodD.fits {d : PyData} {dp wt : Nat} (h : GoodD d dp wt) (h1 : dp ≤ 64) (h2 : wt ≤ 2 ^ 20) : d.shown.length ≤ sizeLine := by
  refine PyData.shown_fits_of_layable0 (B := 13) (by decide) (by decide) ?_ h.short
  unfold PyData.layable0
  rw [h.lay, decide_eq_true (Nat.le_trans h.depth h1), decide_eq_true (Nat.le_trans h.weight h2)]
  rfl
theorem GoodD.shaped {d : PyData} {dp wt : Nat} (h : GoodD d dp wt) (h1 : dp ≤ 64) : SeqAt.shaped d = true := by
  unfold SeqAt.shaped
  rw [h.lay, decide_eq_true (Nat.le_trans h.depth h1)]
  rfl
end L2
end
section
set_option maxRecDepth 100000
set_option maxHeartbeats 4000000
namespace LamX
open PySem PySem.Spec PyProof.Rows L2
/-! ### x(), what it may raise told of the slots at the call -/
section
variable {X : Cx} {pins : List (Addr × Obj)} {σ : L2.St} {H : Hp} {s : Shared}
theorem pe_act3 {CXg : CXT} {Eg : XK} {Ng : List Str} {qg : Str} {sg : Scope} {g f c' : Addr} {cdg pm ctv : Value} {params : Arguments} {body : Expr} {scope : Scope} {k i : Nat} {a : Str} {pn : List (Addr × Obj)} {xe : Value → Shared → Prop} {W : WX} {E : XK} {tb : TE} {p1 p2 : Pos}
    (I : Inv X pins σ H s) (L : LamS X.env.scope scope) (hf : s.heap.get? f = some (PySem.W.kla_obj "<lambda>" (X.env.qual ++ "<lambda>") params body scope (cloFrom X.env.cells scope.names []) pm c' ctv)) (hfn : H f = none) (hfr : f ∉ frs X.stack)
    (hbind : bindArgs (PySem.W.kla_fn "<lambda>" (X.env.qual ++ "<lambda>") params body scope (cloFrom X.env.cells scope.names []) pm (.ref c') ctv) ⟨[], []⟩ = pure [])
    (tk : Takes ((cxOf CXg X.prog X.w X.K X.mg X.base Ng qg sg g cdg X.A X.stack s H Eg).tr pn xe) W) (hr : Room (k + 1) (X.A.deeper (envOfC qg sg s.heap.objs.size g cdg)))
    (hbody : ∀ (A : Around) (outer : List Env) (s : Shared) (H : Hp), Room k (A.deeper (lamEnv X scope s.heap.objs.size f c')) → PE (lamCx X A outer s H E scope f c') body tb)
    (hN : Ng[i]? = some a) (hv : Vis sg a) (hd : (a == ("__debug__" : Str)) = false := by decide) (hcd : (a == ("__classdict__" : Str)) = false := by decide) :
    PE ((cxOf CXg X.prog X.w X.K X.mg X.base Ng qg sg g cdg X.A X.stack s H Eg).tr pn xe) (.Call (.Name a p1) [] [] p2)
      (fun σZ HZ Q => σZ[i]? = some (some (.ref f)) ∧ HZ c' = some (CodeO c' (X.env.qual ++ "<lambda>")) ∧ (∀ cls d H', E cls d H' → W cls d σZ H') ∧ tb σ HZ Q) := by
  refine ⟨fun pinsZ sZ σZ HZ Q IZ h => ?_⟩
  obtain ⟨hs, hc, hW, ht⟩ := h
  refine wpAny_Call_Name_kw (thn ((pe_var (pos := p1) (i := i) hN hv hd hcd).run pinsZ sZ σZ HZ (fun v H1 => v = .ref f ∧ H1 = HZ) IZ ⟨.ref f, hs, rfl, rfl⟩) fun u s1 ⟨v, H1, I1, r1, q1⟩ => ?_)
  obtain ⟨ev, eH⟩ := q1
  subst ev
  rw [eH] at I1
  obtain rfl : u = Value.ref f := r1
  have of1 : s1.heap.get? f = some (PySem.W.kla_obj "<lambda>" (X.env.qual ++ "<lambda>") params body scope (cloFrom X.env.cells scope.names []) pm c' ctv) := I1.base.keep f _ hf hfn hfr (fun z => nomatch (show f ∈ ([] : List Addr) from z))
  refine PySem.W.callWith_F0 ⟨_, _, _, _, of1⟩ ?_
  have un : Un (frs X.stack) [] H HZ s.heap s1.heap := I1.base
  obtain ⟨⟨oc, vs, t, hoc, hdc, hvc⟩, _, _⟩ := I1.hok c' _ hc
  have rc : codeAny (model X.prog X.w) (X.A.deeper (envOfC qg sg s.heap.objs.size g cdg)) (.call (.ref f) ⟨[], []⟩) (CR (L2.CX X.prog X.w) (envOfC qg sg s.heap.objs.size g cdg :: X.stack) X.prog X.w HZ s1 Q E) s1 := by
    refine PySem.W.kla_callFunE hr.depth of1 rfl L.co L.gen rfl ⟨c', oc, vs, t, rfl, hoc, hdc, hvc⟩ ?_
    rw [hbind]
    refine wpAny_pure (wpAny_newFunctionEnv (fun y hy => (L.own y hy).2) (fun y hy => absurd hy (by simp)) (fun h₁ hns hsb => ⟨I1.nolimit.fresh _ hsb, ?_⟩) L.kind)
    show codeAny _ _ (.expr body (lamEnv X scope s1.heap.objs.size f c')) _ _
    have kp : ∀ b o, s1.heap.get? b = some o → h₁.get? b = some o := fun b o e => hsb.extBut b o (Nat.ne_of_lt (Heap.lt_size e)) (Heap.get?_push_of_some _ e)
    have J : Inv (lamCx X (X.A.deeper (envOfC qg sg s.heap.objs.size g cdg)) (envOfC qg sg s.heap.objs.size g cdg :: X.stack) s1 HZ E scope f c') [] σ HZ { s1 with heap := h₁, toks := s1.toks + ([] : List (Str × Value)).length } :=
      lam_start2 I L I1.env0 hr.hd un hns kp
    refine PySem.W.kla_codeExpr (wpAny_mono ((hbody _ _ s1 HZ (hr.deeper _)).run [] _ _ HZ Q J ht) (fun v s' hq => ?_) fun e s' hq => hq)
    obtain ⟨w', H', J', rv, q⟩ := hq
    exact ⟨w', H', J'.os, J'.bare, J'.base, J'.hok, rv, q⟩
  refine wpAny_call (codeAny_mono rc fun r s' hq => ?_)
  cases r with
  | error e => exact tk e s' (XE.of_call I1 (fun cls d H' h => hW cls d H' h) hq)
  | ok fl =>
    cases fl with
    | ret u => exact I1.after hq
    | next => exact False.elim hq
    | brk => exact False.elim hq
    | cont => exact False.elim hq
end
def Gives3 (X : Cx) (Ng : List Str) (x : Str) (sg : Scope) (g : Addr) (cdg : Value) (bg : List Stmt) (a : Str) (q : Str) (TT : (XK → Hp → VK → Prop) → (Hp → Prop) → V → Hp → VK → Prop) : Prop :=
  ∀ (f c' : Addr) (s : Shared) (H : Hp) (Q : VK) (v2 : V) (tl : XK → Hp → VK → Prop),
    (∀ (W : WX) (pn : List (Addr × Obj)) (xe : Value → Shared → Prop) (E : XK) (p1 p2 : Pos), Takes ((cxOf C8.CX0 X.prog X.w X.K X.mg X.base Ng x sg g cdg X.A X.stack s H C8.E0).tr pn xe) W →
      PE ((cxOf C8.CX0 X.prog X.w X.K X.mg X.base Ng x sg g cdg X.A X.stack s H C8.E0).tr pn xe) (.Call (.Name a p1) [] [] p2) (fun σZ HZ Q => σZ[0]? = some (some (.ref f)) ∧ HZ c' = some (CodeO c' q) ∧ (∀ cls d H', E cls d H' → W cls d σZ H') ∧ tl E HZ Q)) →
    H c' = some (CodeO c' q) → TT tl (fun H' => H' c' = some (CodeO c' q)) v2 H Q →
    ∃ t, PSs (cxOf C8.CX0 X.prog X.w X.K X.mg X.base Ng x sg g cdg X.A X.stack s H C8.E0).nox bg t ∧ t { nx := fun _ H' => Q .non H', rt := Q } (L2.start Ng [.ref f, v2]) H
section
variable {X : Cx}
theorem pe_lamcall3 {T : List (Addr × Str)} {TT : (XK → Hp → VK → Prop) → (Hp → Prop) → V → Hp → VK → Prop} {x a a2 : Str} {g c P : Addr} {k : Nat} {pg : Arguments} {bg : List Stmt} {sg : Scope} {dV kV doc pm cdv ct oc : Value} {an od : Option Addr} {osl : Array (Option Value)} {Ng : List Str}
    {params : Arguments} {body : Expr} {scope : Scope} {t : XK → TE} {p lpos pos : Pos} {e2 : Expr} {te : TE} (hg : Gl X x) (hm : X.mg x = some (.ref g)) (hk : PySem.W.keepIn X.K (.ref g) = true)
    (lk : X.K.lookup g = some ⟨oc, od, .func (PySem.W.fnOf x x pg bg sg dV kV doc pm an cdv ct), osl⟩) (hcg : PySem.W.codeIn X.K cdv x = true) (hb : L2.Binds X.K (PySem.W.fnOf x x pg bg sg dV kV doc pm an cdv ct) [a, a2] []) (Sg : FnScope Ng [a, a2] sg) (hNg : Ng[0]? = some a) (hva : Vis sg a)
    (hG : Gives3 X Ng x sg g cdv bg a (X.env.qual ++ "<lambda>") TT)
    (TB : TabB X.base X.mg c P) (hcode : X.env.code = .ref c) (hmT : (P, X.env.qual ++ "<lambda>") ∈ T) (hu : ∀ p ∈ T, p.1 = P → p.2 = X.env.qual ++ "<lambda>") (hr : Room (k + 2) X.A) (L : LamS X.env.scope scope) (hdef : defaultsOf params X.env = ([], []))
    (hbind : ∀ (q : Str) (cl : List (Str × Addr)) (pm cv ctv : Value), bindArgs (PySem.W.kla_fn "<lambda>" q params body scope cl pm cv ctv) ⟨[], []⟩ = pure [])
    (hbody : ∀ (A : Around) (outer : List Env) (s : Shared) (H : Hp) (E : XK) (f c' : Addr), Room k (A.deeper (lamEnv X scope s.heap.objs.size f c')) → PE (lamCx X A outer s H E scope f c') body (t E))
    (he2 : PA X [e2] (tCons te tNil))
    (hdb : (x == ("__debug__" : Str)) = false := by decide) (hd : (a == ("__debug__" : Str)) = false := by decide) (hcd : (a == ("__classdict__" : Str)) = false := by decide)
    (hs : starEach [.Lambda params body scope lpos, e2] X.env = (false, eval (.Lambda params body scope lpos) X.env) :: starEach [e2] X.env := by rfl) (hpl : (backTo pos (starEach [e2] X.env)).any (·.1) = false := by rfl) :
    PE X (.Call (.Name x p) [.Lambda params body scope lpos, e2] [] pos) (tLam2 T (X.env.qual ++ "<lambda>") TT t te) := by
  constructor
  intro pins s σ H Q I h
  obtain ⟨hT, h⟩ := h
  refine wpAny_Call_Name_kw (ld_glob I hg hm ?_ hdb)
  refine PySem.W.callWith_K (h₀ := X.base) I.ok.mod.kin hk ?_ hs hpl
  rw [hs]
  show wpAny _ _ (spliced ((false, eval (.Lambda params body scope lpos) X.env) :: backTo pos (starEach [e2] X.env))) _ _ s
  refine Calls.spliced_cons (lam_make2 I TB hcode hmT hu hT hdef (L.has I.ok) fun f c' pm' ctv H1 s' I1 eN T1 hf hfn hfr hco => ?_)
  have hcell : ∀ v, (PySem.W.kla_obj "<lambda>" (X.env.qual ++ "<lambda>") params body scope (cloFrom X.env.cells scope.names []) pm' c' ctv).data ≠ .cell v := fun v z => by cases z
  have fL : f ≠ X.env.locals := fun z => by
    obtain ⟨m, ⟨o, es, ep, e1, e2', _⟩, _⟩ := I1.loc
    rw [← z, hf] at e1
    have e3 := Option.some.inj e1
    rw [← e3] at e2'
    cases e2'
  have Ip : Inv X ((f, _) :: pins) σ H1 s' := I1.pins_of fun r hr => by
    rcases List.mem_cons.mp hr with e | e
    · subst e
      exact ⟨hf, hfn, fL, fun z => hfr (by
        rcases I1.ok.stk with e | ⟨e, _⟩
        · rw [e]; exact z
        · rw [e]
          show f ∈ (X.env :: X.outer).filterMap _
          rw [List.filterMap_cons]
          split
          · exact z
          · exact List.mem_cons_of_mem _ z), hcell⟩
    · exact I1.pin r (List.mem_append_right _ e)
  have h2 := h H1 c' eN T1 hco
  refine thn (he2.run pos _ s' σ H1 (fun vs H2 => ∃ v2, vs = [v2] ∧ H2 c' = some (CodeO c' (X.env.qual ++ "<lambda>")) ∧ TT (fun E H' Q' => t E σ H' Q') (fun H' => H' c' = some (CodeO c' (X.env.qual ++ "<lambda>"))) v2 H2 Q) Ip h2) ?_
  rintro us s2 ⟨vs, H2, I2, r2, v2, rfl, hc2, q2⟩
  obtain ⟨u2, rfl, ru2⟩ := vals1 r2
  refine ⟨I2.kIn, ?_⟩
  obtain ⟨hf2, hfn2, _⟩ := I2.pin (f, _) (List.mem_append_right _ List.mem_cons_self)
  have J2 : Inv X pins σ H2 s2 := ClX.unpin I2
  have rc : codeAny (model X.prog X.w) X.A (.call (.ref g) ⟨[.ref f, u2], []⟩) (CR C8.CX0 X.stack X.prog X.w H2 s2 Q C8.E0) s2 := by
    refine run_ofS (N := Ng) (ps := [a, a2]) (us := [.ref f, u2]) (vs := [.ref f, v2]) lk hcg Sg hr J2.env0 (hb s2 [.ref f, u2] J2.kIn rfl) (.cons rfl (.cons ru2 .nil)) rfl fun hr' => ?_
    obtain ⟨t', ht', hq'⟩ := hG f c' s2 H2 Q v2 (fun E H' Q' => t E σ H' Q') (fun W pn xe E p1 p2 tk => pe_act3 (i := 0) J2 L hf2 hfn2 hfr (hbind _ _ _ _ _) tk hr' (fun A outer s H hr2 => hbody A outer s H E f c' hr2) hNg hva hd hcd) hc2 q2
    exact ⟨t', ht'.nox, hq'⟩
  refine wpAny_call (codeAny_mono rc ?_)
  intro r s3 hq
  cases r with
  | error e => exact (show False from hq).elim
  | ok fl =>
    cases fl with
    | ret u => exact J2.after hq
    | next => exact False.elim hq
    | brk => exact False.elim hq
    | cont => exact False.elim hq
end
end LamX
end
section
set_option maxRecDepth 100000
set_option maxHeartbeats 4000000
namespace L2
open PySem PySem.Spec PyProof.Rows
/-! ### defs that make lambdas -/
section
variable {P : Program} {w : World} {K : PySem.W.Frag} {mg : Str → Option Value} {base : Heap} {CX : CXT} {k j : Nat} {x : Str} {ps N : List Str} {sp : Sp} {st : Stmt} {cc : Addr}
/-- a def that lets nothing out, its code object known -/
theorem Ok.defC (e : ∃ f fd, FnP K x st f fd ∧ mg x = some (.ref f) ∧ fd.code = .ref cc)
    (hb : ∀ (kV doc pm : Value) (an : Option Addr) (cdv ct : Value) (us : List Value), us.length = ps.length → bindArgs (PySem.W.fnOf x x (defArgs st) (defBody st) (defScope st) .none kV doc pm an cdv ct) ⟨us, []⟩ = pure (ps.zip us))
    (S : FnScope N ps (defScope st)) (len : ∀ vs H Q E, sp vs H Q E → vs.length = ps.length)
    (hbody : ∀ (f : Addr) (A : Around) (outer : List Env) (s : Shared) (H : Hp) (vs : List V) (Q : VK) (E : XK), Room k (A.deeper (envOfC x (defScope st) s.heap.objs.size f (.ref cc))) → sp vs H Q E →
      ∃ t, PSs (cxOf CX0 P w K mg base N x (defScope st) f (.ref cc) A outer s H E).nox (defBody st) t ∧ t { nx := fun _ H' => Q .non H', rt := Q } (start N vs) H) : Ok P w K mg base CX0 (k + 1) x ps sp := by
  obtain ⟨f, fd, F, g, hc⟩ := e
  refine ⟨f, fd, ?_, g, F.kp, F.bindsN hb⟩
  obtain ⟨oc, od, dV, kV, doc, pm, an, cdv, ct, osl, rfl, lk, hcd, _, _⟩ := F.ex
  obtain rfl : cdv = .ref cc := hc
  exact fn_of lk hcd S len fun A outer s H vs Q E hr hsp => by
    obtain ⟨t, h1, h2⟩ := hbody f A outer s H vs Q E hr hsp
    exact ⟨t, h1.nox, h2⟩
/-- a def of the top that asks that no repr is under way -/
structure OkG (P : Program) (w : World) (K : PySem.W.Frag) (mg : Str → Option Value) (base : Heap) (k : Nat) (x : Str) (ps : List Str) (sp : Sp) : Prop where
  ex : ∃ f fd, FnG P w K mg base k f fd ps sp ∧ mg x = some (.ref f) ∧ PySem.W.keepIn K (.ref f) = true ∧ Binds K fd ps []
theorem OkG.defC (e : ∃ f fd, FnP K x st f fd ∧ mg x = some (.ref f) ∧ fd.code = .ref cc)
    (hb : ∀ (kV doc pm : Value) (an : Option Addr) (cdv ct : Value) (us : List Value), us.length = ps.length → bindArgs (PySem.W.fnOf x x (defArgs st) (defBody st) (defScope st) .none kV doc pm an cdv ct) ⟨us, []⟩ = pure (ps.zip us))
    (S : FnScope N ps (defScope st)) (len : ∀ vs H Q E, sp vs H Q E → vs.length = ps.length)
    (hbody : ∀ (f : Addr) (A : Around) (outer : List Env) (s : Shared) (H : Hp) (vs : List V) (Q : VK), Room k (A.deeper (envOfC x (defScope st) s.heap.objs.size f (.ref cc))) → A.guards = some [] → sp vs H Q E0 →
      ∃ t, PSs (cxOf CX0 P w K mg base N x (defScope st) f (.ref cc) A outer s H E0).nox (defBody st) t ∧ t { nx := fun _ H' => Q .non H', rt := Q } (start N vs) H) : OkG P w K mg base (k + 1) x ps sp := by
  obtain ⟨f, fd, F, g, hc⟩ := e
  have B : Binds K fd ps [] := F.bindsN hb
  refine ⟨f, fd, ?_, g, F.kp, B⟩
  obtain ⟨oc, od, dV, kV, doc, pm, an, cdv, ct, osl, rfl, lk, hcd, _, _⟩ := F.ex
  obtain rfl : cdv = .ref cc := hc
  constructor
  · exact len
  · intro A outer s H args us vs Q hr hgd e0 hbt r hsp
    refine LamX.run_ofS lk hcd S hr e0 hbt r (len _ _ _ _ hsp) fun hr' => ?_
    obtain ⟨t, h, q⟩ := hbody f A outer s H vs Q hr' hgd hsp
    exact ⟨t, h.nox, q⟩
end
theorem pe_okG {X : Cx} {k : Nat} {x : Str} {ps : List Str} {sp : Sp} {p pos : Pos} {e : Expr} {es : List Expr} {t : TA} (O : OkG X.prog X.w X.K X.mg X.base k x ps sp) (hr : Room k X.A) (hgd : X.A.guards = some []) (hg : Gl X x) (ha : PA X (e :: es) t)
    (hdb : (x == ("__debug__" : Str)) = false := by decide) (he : starEach (e :: es) X.env = (false, eval e X.env) :: starEach es X.env := by rfl) (hpl : (backTo pos (starEach es X.env)).any (·.1) = false := by rfl) :
    PE X (.Call (.Name x p) (e :: es) [] pos) (tCallE sp t) := by
  obtain ⟨f, fd, F, hm, hk, hb⟩ := O.ex
  exact pe_callG F hr hgd hg hm hk hb ha hdb he hpl
end L2
namespace LamX
open PySem PySem.Spec PyProof.Rows L2
theorem Gives2.three {X : Cx} {Ng : List Str} {x : Str} {sg : Scope} {g : Addr} {cdg : Value} {bg : List Stmt} {a q : Str} {TT : (XK → Hp → VK → Prop) → (Hp → Prop) → V → Hp → VK → Prop} (h : Gives2 X Ng x sg g cdg bg a q TT) : Gives3 X Ng x sg g cdg bg a q TT := by
  intro f c' s H Q v2 tl hc hco hT
  exact h f c' s H Q v2 tl (fun W pn xe E p1 p2 tk hW => ⟨fun pins s' σ H' Q' I hq => (hc W pn xe E p1 p2 tk).run pins s' σ H' Q' I ⟨hq.1, hq.2.1, fun cls d H2 he => hW cls d _ H2 he, hq.2.2⟩⟩) hco hT
end LamX
end
section
set_option maxRecDepth 100000
set_option maxHeartbeats 4000000
namespace L2
open PySem PySem.Spec PyProof.Rows
section
variable {P : Program} {w : World} {K : PySem.W.Frag} {mg : Str → Option Value} {base : Heap}
abbrev stk (a b c : Int) : HO := .lst [.int a, .int b, .int c]
def Stk (H : Hp) (sa : Addr) : Prop := ∃ a b c, H sa = some (stk a b c)
theorem fmod_range (a : Int) {m : Int} (h : 0 < m) : 0 ≤ a.fmod m ∧ a.fmod m < m := by
  rw [Int.fmod_eq_emod_of_nonneg a (Int.le_of_lt h)]
  exact ⟨Int.emod_nonneg _ (by omega), Int.emod_lt_of_pos _ h⟩
def spDraw : Sp := fun vs H Q _ => ∃ (sa : Addr) (m : Int), vs = [.ref sa, .int m] ∧ 0 < m ∧ m < 1073741824 ∧ Stk H sa ∧ ∀ r a b c, 0 ≤ r → r < m → Q (.int r) (upd H sa (stk a b c))
def spStock (K : PySem.W.Frag) : Sp := fun vs H Q _ => ∃ (a : Addr) (ns : List Int) (at_ : Int), vs = [.ref a, .int at_] ∧ SqL K H a (ns.map V.int) ∧ ns.length ≤ 63 ∧ 0 ≤ at_ ∧ at_ ≤ 100 ∧
  ∀ p H', H p = none → Same H H' → Stk H' p → Q (.ref p) H'
theorem stk_upd {H : Hp} {sa : Addr} {a b c : Int} : Stk (upd H sa (stk a b c)) sa := ⟨a, b, c, upd_same⟩
theorem Stk.ne {H : Hp} {sa : Addr} (h : Stk H sa) : H sa ≠ none := by
  obtain ⟨a, b, c, h⟩ := h
  rw [h]
  exact fun z => by cases z
theorem Stk.but {H : Hp} {sa a : Addr} (h : Stk H sa) (n : sa ≠ a) {o : HO} : Stk (upd H a o) sa := by
  obtain ⟨x, y, z, h⟩ := h
  exact ⟨x, y, z, by rw [upd_ne n]; exact h⟩
theorem Stk.new {H : Hp} {sa a : Addr} (h : Stk H sa) (n : H a = none) {o : HO} : Stk (upd H a o) sa := h.but fun z => h.ne (z ▸ n)
theorem Stk.same {H H' : Hp} {sa : Addr} (h : Stk H sa) (e : Same H H') : Stk H' sa := by
  obtain ⟨x, y, z, h⟩ := h
  exact ⟨x, y, z, e _ _ h⟩
def Leaf (v w : V) : Prop := (∃ n, v = .int n ∧ w = .int n) ∨ (∃ s, v = .str s ∧ w = .str s)
def Comp (R : Hp → V → V → Prop) (H : Hp) (v w : V) : Prop := ∃ (a b : Addr) (xs ys : List V), v = .ref a ∧ w = .ref b ∧ ((H a = some (.lst xs) ∧ H b = some (.lst ys)) ∨ (H a = some (.tup xs) ∧ H b = some (.tup ys))) ∧ xs.length = ys.length ∧ ys.length ≤ 1000 ∧ ∀ (i : Nat) (x y : V), xs[i]? = some x → ys[i]? = some y → R H x y
def Mt : Nat → Hp → V → V → Prop
  | 0, _, v, w => Leaf v w
  | k + 1, H, v, w => Leaf v w ∨ Comp (Mt k) H v w
theorem Mt.same : ∀ {k : Nat} {H H' : Hp} {v w : V}, Same H H' → Mt k H v w → Mt k H' v w
  | 0, _, _, _, _, _, h => h
  | k + 1, _, _, _, _, e, .inl h => .inl h
  | k + 1, _, _, _, _, e, .inr ⟨a, b, xs, ys, e1, e2, h, hl, hz, hr⟩ => .inr ⟨a, b, xs, ys, e1, e2, h.imp (fun z => ⟨e _ _ z.1, e _ _ z.2⟩) (fun z => ⟨e _ _ z.1, e _ _ z.2⟩), hl, hz, fun i x y hx hy => Mt.same e (hr i x y hx hy)⟩
def spMt (R : Hp → V → V → Prop) : Sp := fun vs H Q _ => ∃ v w, vs = [v, w] ∧ R H v w ∧ ∀ H', Same H H' → Q (.bl true) H'
theorem k_ii : PySem.W.kitOne K (.type "int") (.type "int") = some true := kit_ty (by decide +kernel)
theorem k_ib : PySem.W.kitOne K (.type "int") (.type "bool") = some false := kit_ty (by decide +kernel)
theorem k_sb : PySem.W.kitOne K (.type "str") (.type "bool") = some false := kit_ty (by decide +kernel)
theorem k_si : PySem.W.kitOne K (.type "str") (.type "int") = some false := kit_ty (by decide +kernel)
theorem k_ss : PySem.W.kitOne K (.type "str") (.type "str") = some true := kit_ty (by decide +kernel)
theorem k_lb : PySem.W.kitOne K (.type "list") (.type "bool") = some false := kit_ty (by decide +kernel)
theorem k_li : PySem.W.kitOne K (.type "list") (.type "int") = some false := kit_ty (by decide +kernel)
theorem k_ls : PySem.W.kitOne K (.type "list") (.type "str") = some false := kit_ty (by decide +kernel)
theorem k_ld : PySem.W.kitOne K (.type "list") (.type "dict") = some false := kit_ty (by decide +kernel)
theorem k_lt : PySem.W.kitOne K (.type "list") (.type "tuple") = some false := kit_ty (by decide +kernel)
theorem k_ll : PySem.W.kitOne K (.type "list") (.type "list") = some true := kit_ty (by decide +kernel)
theorem k_tb : PySem.W.kitOne K (.type "tuple") (.type "bool") = some false := kit_ty (by decide +kernel)
theorem k_ti : PySem.W.kitOne K (.type "tuple") (.type "int") = some false := kit_ty (by decide +kernel)
theorem k_ts : PySem.W.kitOne K (.type "tuple") (.type "str") = some false := kit_ty (by decide +kernel)
theorem k_td : PySem.W.kitOne K (.type "tuple") (.type "dict") = some false := kit_ty (by decide +kernel)
theorem k_tt : PySem.W.kitOne K (.type "tuple") (.type "tuple") = some true := kit_ty (by decide +kernel)
theorem k_tl : PySem.W.kitOne K (.type "tuple") (.type "list") = some false := kit_ty (by decide +kernel)
theorem k_il : PySem.W.kitOne K (.type "int") (.type "list") = some false := kit_ty (by decide +kernel)
theorem k_it : PySem.W.kitOne K (.type "int") (.type "tuple") = some false := kit_ty (by decide +kernel)
theorem k_id : PySem.W.kitOne K (.type "int") (.type "dict") = some false := kit_ty (by decide +kernel)
theorem k_sl : PySem.W.kitOne K (.type "str") (.type "list") = some false := kit_ty (by decide +kernel)
theorem k_st : PySem.W.kitOne K (.type "str") (.type "tuple") = some false := kit_ty (by decide +kernel)
theorem k_sd : PySem.W.kitOne K (.type "str") (.type "dict") = some false := kit_ty (by decide +kernel)
theorem tx_int {H : Hp} (n : Int) : TyX K H (.int n) (.type "int") := .base (.int n)
theorem tx_str {H : Hp} (n : Str) : TyX K H (.str n) (.type "str") := .base (.str n)
theorem tx_lst {H : Hp} {a : Addr} {xs : List V} (h : H a = some (.lst xs)) : TyX K H (.ref a) (.type "list") := .base (.lst h)
theorem tx_tup {H : Hp} {a : Addr} {xs : List V} (h : H a = some (.tup xs)) : TyX K H (.ref a) (.type "tuple") := .base (.tup h)
def Leaf1 (v : V) : Prop := (∃ n, v = .int n) ∨ (∃ s, v = .str s)
theorem mt_ints {H : Hp} {a b : Addr} {ns : List Int} (hz : ns.length ≤ 1000) (ha : H a = some (.lst (ns.map V.int))) (hb : H b = some (.lst (ns.map V.int))) : Mt 1 H (.ref a) (.ref b) := by
  refine .inr ⟨a, b, _, _, rfl, rfl, .inl ⟨ha, hb⟩, rfl, by rw [ints_len]; exact hz, fun i x y hx hy => ?_⟩
  obtain ⟨n, _, rfl⟩ := ints_get hx
  rw [hx] at hy
  cases hy
  exact .inl ⟨n, rfl, rfl⟩
theorem new2 {H : Hp} {a : Addr} (o : HO) (h : H a = none) : Same H (upd H a o) ∧ upd H a o a = some o := ⟨same_new h, upd_same⟩
theorem pe_noway {X : Cx} {e : Expr} : PE X e (fun _ _ _ => False) := ⟨fun _ _ _ _ _ _ h => h.elim⟩
theorem ext_lst {H H' : Hp} {a : Addr} {xs : List V} (e : LamX.ExtN H H') (h : H a = some (.lst xs)) : H' a = some (.lst xs) := e _ _ h fun _ z => by cases z
theorem ext_tup {H H' : Hp} {a : Addr} {xs : List V} (e : LamX.ExtN H H') (h : H a = some (.tup xs)) : H' a = some (.tup xs) := e _ _ h fun _ z => by cases z
theorem ext_of {H H' : Hp} (e : Same H H') : LamX.ExtN H H' := fun b o h _ => e b o h
def Bx (sa : Addr) (H H' : Hp) : Prop := ∀ b o, H b = some o → (∀ ps, o ≠ .tbl ps) → b ≠ sa → H' b = some o
theorem ext_bx {sa : Addr} {H H1 H2 : Hp} (e : LamX.ExtN H H1) (n : H sa = none) (b : Bx sa H1 H2) : LamX.ExtN H H2 := fun c o h p => b c o (e c o h p) p (ne_of_none h n)
theorem ext_new {sa : Addr} {H H1 H1' H2 : Hp} (e : LamX.ExtN H H1) (n : H1 sa = none) (s : Same H1 H1') (b : Bx sa H1' H2) : LamX.ExtN H H2 := fun c o h p => b c o (s _ _ (e c o h p)) p (ne_of_none (e c o h p) n)
theorem ext_seq {K : PySem.W.Frag} {H H' : Hp} {a : Addr} {xs : List V} (e : LamX.ExtN H H') (h : SqL K H a xs) : SqL K H' a xs := by
  rcases h with (h | ⟨o, h⟩) | h
  · exact .inl (.inl (e _ _ h fun _ z => by cases z))
  · exact .inl (.inr ⟨o, e _ _ h fun _ z => by cases z⟩)
  · exact .inr h
theorem min2 (a b : Int) : (if b < a then b else a) = min a b := by omega
theorem max2 (a b : Int) : (if b > a then b else a) = max a b := by omega
theorem max1 (m : Int) : (if m > 1 then m else 1) = max 1 m := by omega
theorem Bx.of_but {sa : Addr} {H H' : Hp} (e : But sa H H') : Bx sa H H' := fun b o h _ n => e b o h n
theorem Bx.of_same {sa : Addr} {H H' : Hp} (e : Same H H') : Bx sa H H' := fun b o h _ _ => e b o h
theorem Bx.of_ext {sa : Addr} {H H' : Hp} (e : LamX.ExtN H H') : Bx sa H H' := fun b o h n _ => e b o h n
theorem Bx.trans {sa : Addr} {H H1 H2 : Hp} (a : Bx sa H H1) (b : Bx sa H1 H2) : Bx sa H H2 := fun c o h n m => b c o (a c o h n m) n m
theorem Bx.lst {sa : Addr} {H H' : Hp} {a : Addr} {xs : List V} (e : Bx sa H H') (n : a ≠ sa) (h : H a = some (.lst xs)) : H' a = some (.lst xs) := e _ _ h (fun _ z => by cases z) n
theorem Bx.tup {sa : Addr} {H H' : Hp} {a : Addr} {xs : List V} (e : Bx sa H H') (n : a ≠ sa) (h : H a = some (.tup xs)) : H' a = some (.tup xs) := e _ _ h (fun _ z => by cases z) n
theorem tabs_but {sa : Addr} {H H' : Hp} {Tb : List (Addr × Str)} (h : LamX.Tabs Tb H) (hs : Stk H sa) (e : But sa H H') : LamX.Tabs Tb H' := fun p hp => by
  obtain ⟨ps, hP, ht, hc⟩ := h p hp
  have hne : p.1 ≠ sa := fun z => by
    obtain ⟨x, y, w, hs⟩ := hs
    rw [z, hs] at hP
    cases hP
  exact ⟨ps, e _ _ hP hne, ht, fun pos cv q => by
    obtain ⟨c, h1, h2⟩ := hc pos cv q
    have hc : c ≠ sa := fun z => by
      obtain ⟨x, y, w, hs⟩ := hs
      rw [z, hs] at h2
      cases h2
    exact ⟨c, h1, e _ _ h2 hc⟩⟩
def PairT (H : Hp) (x : V) (c : Int × Int) : Prop := ∃ t, x = .ref t ∧ H t = some (.tup [.int c.1, .int c.2])
theorem ne_stk {H : Hp} {sa t : Addr} {o : HO} (hs : Stk H sa) (h : H t = some o) (n : ∀ xs, o ≠ .lst xs) : t ≠ sa := fun z => by
  obtain ⟨x, y, w, hs⟩ := hs
  rw [z, hs] at h
  exact n _ (Option.some.inj h).symm
theorem PairT.bx {sa : Addr} {H H' : Hp} (hs : Stk H sa) (e : Bx sa H H') {x : V} {c : Int × Int} (h : PairT H x c) : PairT H' x c := by
  obtain ⟨t, rfl, h⟩ := h
  exact ⟨t, rfl, e.tup (ne_stk hs h fun _ z => by cases z) h⟩
theorem PairT.same {H H' : Hp} (e : Same H H') {x : V} {c : Int × Int} (h : PairT H x c) : PairT H' x c := by
  obtain ⟨t, rfl, h⟩ := h
  exact ⟨t, rfl, e _ _ h⟩
theorem PairT.mut {H : Hp} {l : Addr} {xs : List V} {o : HO} (hl : H l = some (.lst xs)) {x : V} {c : Int × Int} (h : PairT H x c) : PairT (upd H l o) x c := by
  obtain ⟨t, rfl, h⟩ := h
  refine ⟨t, rfl, ?_⟩
  rw [upd_ne (fun z => by rw [z, hl] at h; cases h)]
  exact h
theorem PairT.r {K : PySem.W.Frag} {H : Hp} {x : V} {c : Int × Int} (h : PairT H x c) : PairR K H x c := by
  obtain ⟨t, rfl, h⟩ := h
  exact ⟨t, rfl, .inl (SqT.of h)⟩
theorem paired_mem {α β : Type} {R : α → β → Prop} {xs : List α} {ys : List β} (h : Paired R xs ys) {x : α} (hx : x ∈ xs) : ∃ y ∈ ys, R x y := by
  induction h with
  | nil => cases hx
  | cons a _ ih =>
    rcases List.mem_cons.mp hx with rfl | hx
    · exact ⟨_, List.mem_cons_self, a⟩
    · obtain ⟨y, hy, r⟩ := ih hx
      exact ⟨y, List.mem_cons_of_mem _ hy, r⟩
theorem paired_build {α β : Type} {R : α → β → Prop} {S : β → Prop} : ∀ (xs : List α), (∀ x ∈ xs, ∃ y, R x y ∧ S y) → ∃ ys, Paired R xs ys ∧ ∀ y ∈ ys, S y
  | [], _ => ⟨[], .nil, fun y hy => by cases hy⟩
  | x :: t, h => by
    obtain ⟨y, r, s⟩ := h x List.mem_cons_self
    obtain ⟨ys, rs, ss⟩ := paired_build t fun z hz => h z (List.mem_cons_of_mem _ hz)
    refine ⟨y :: ys, .cons r rs, fun z hz => ?_⟩
    rcases List.mem_cons.mp hz with rfl | hz
    · exact s
    · exact ss z hz
theorem paired_drop {α β : Type} {R : α → β → Prop} : ∀ (k : Nat) {xs : List α} {ys : List β}, Paired R xs ys → Paired R (xs.drop k) (ys.drop k)
  | 0, _, _, h => h
  | k + 1, _, _, .nil => .nil
  | k + 1, _, _, .cons a r => paired_drop k r
theorem paired_take {α β : Type} {R : α → β → Prop} : ∀ (k : Nat) {xs : List α} {ys : List β}, Paired R xs ys → Paired R (xs.take k) (ys.take k)
  | 0, _, _, _ => .nil
  | k + 1, _, _, .nil => .nil
  | k + 1, _, _, .cons a r => .cons a (paired_take k r)
def Er (C : Addr) (fl : Str) (v : V) (H : Hp) : XK := fun cls d H' => cls = .ref C ∧ ∃ d', d = some d' ∧ Same H H' ∧ H' d' = some (.xd [(fl, v)])
theorem rz_er {C : Addr} {fl : Str} {v : V} {H H1 : Hp} (e : Same H H1) : Rz (Er C fl v H) H1 C fl v := fun d H' s hd => ⟨rfl, d, rfl, e.trans s, hd⟩
theorem paired_rep {α β : Type} {R : α → β → Prop} {x : α} {c : β} (h : R x c) : ∀ n, Paired R (List.replicate n [x]).flatten (List.replicate n c)
  | 0 => .nil
  | n + 1 => .cons h (paired_rep h n)
theorem rep_ints (n : Nat) (z : Int) : (List.replicate n [V.int z]).flatten = (List.replicate n z).map V.int := by
  induction n with
  | zero => rfl
  | succ n ih => rw [List.replicate_succ, List.flatten_cons, ih]; rfl
theorem rep_len {α : Type} (n : Nat) (x : α) : (List.replicate n [x]).flatten.length = n := by
  induction n with
  | zero => rfl
  | succ n ih => rw [List.replicate_succ, List.flatten_cons, List.length_append, ih]; simp; omega
end
end L2
end
section
set_option maxRecDepth 100000
set_option maxHeartbeats 4000000
namespace L2
open PySem PySem.Spec PyProof.Rows
/-! ### methods and own classes by name -/
structure OkM (P : Program) (w : World) (K : PySem.W.Frag) (mg : Str → Option Value) (base : Heap) (CX : CXT) (k : Nat) (C : Addr) (m : Str) (ps : List Str) (sp : Sp) : Prop where
  ex : ∃ f fd, FnOk P w K mg base CX k f fd ps sp ∧ Meth K C m f ∧ Binds K fd ps []
structure OkK (P : Program) (w : World) (K : PySem.W.Frag) (mg : Str → Option Value) (base : Heap) (CX : CXT) (k : Nat) (x : Str) (C : Addr) (ps : List Str) (sp : Sp) : Prop where
  ex : ∃ f fd, FnOk P w K mg base CX k f fd ps sp ∧ Mk K C f ∧ mg x = some (.ref C) ∧ Binds K fd ps []
section
variable {X : Cx} {CX : CXT} {k : Nat} {C : Addr} {x m : Str} {ps : List Str} {sp : Sp} {E : XK} {p pos apos : Pos} {o e : Expr} {es : List Expr} {ta : TE} {t : TA}
theorem pe_okM {pl : Sem Bool} (O : OkM X.prog X.w X.K X.mg X.base CX k C m ps sp) (c : Cls X.K C) (he : PE X o ta) (hr : Room k X.A) (hx : Passes CX X E) (ha : PA X (e :: es) t)
    (hst : starEach (e :: es) X.env = (false, eval e X.env) :: starEach es X.env := by rfl) (hpl : (backTo pos (starEach es X.env)).any (·.1) = false := by rfl)
    (ht : eval (.Call (.Attribute o m apos) (e :: es) [] pos) X.env = (do
      let ov ← eval o X.env
      standAt apos.atName
      let (f, first) ← holding [ov] (getMethod ov m pl)
      callWith pos f first (backTo pos (starEach (e :: es) X.env)) (backToKw pos (keywordEach [] X.env))) := by rfl) : PE X (.Call (.Attribute o m apos) (e :: es) [] pos) (tMeth C m sp [] E ta t) := by
  obtain ⟨f, fd, F, M, B⟩ := O.ex
  exact pe_meth (pl := pl) he c M F hr B .nil hx ha hst hpl ht
theorem pe_okM0 {pl : Sem Bool} (O : OkM X.prog X.w X.K X.mg X.base CX k C m ps sp) (c : Cls X.K C) (he : PE X o ta) (hr : Room k X.A) (hx : Passes CX X E)
    (ht : eval (.Call (.Attribute o m apos) [] [] pos) X.env = (do
      let ov ← eval o X.env
      standAt apos.atName
      let (f, first) ← holding [ov] (getMethod ov m pl)
      callWith pos f first (backTo pos (starEach [] X.env)) (backToKw pos (keywordEach [] X.env))) := by rfl) : PE X (.Call (.Attribute o m apos) [] [] pos) (tMeth C m sp [] E ta tNil) := by
  obtain ⟨f, fd, F, M, B⟩ := O.ex
  exact pe_meth0 (pl := pl) he c M F hr B .nil hx ht
theorem pe_okK (O : OkK X.prog X.w X.K X.mg X.base CX k x C ps sp) (hr : Room (k + 1) X.A) (hg : Gl X x) (hx : Passes CX X E) (ha : PA X (e :: es) t) (hdb : (x == ("__debug__" : Str)) = false := by decide)
    (he : starEach (e :: es) X.env = (false, eval e X.env) :: starEach es X.env := by rfl) (hpl : (backTo pos (starEach es X.env)).any (·.1) = false := by rfl) : PE X (.Call (.Name x p) (e :: es) [] pos) (tMake C sp [] E t) := by
  obtain ⟨f, fd, F, M, hm, B⟩ := O.ex
  exact pe_make M F hr hg hm B .nil hx ha hdb he hpl
end
section
variable {P : Program} {w : World} {K : PySem.W.Frag} {mg : Str → Option Value} {base : Heap} {k : Nat} {C f : Addr} {m q x : Str} {ps N : List Str} {sp : Sp} {st : Stmt}
theorem OkM.def0 (e : ∃ fd, FnM K m q st f fd) (M : Meth K C m f)
    (hb : ∀ (kV doc pm : Value) (an : Option Addr) (cdv ct : Value) (us : List Value), us.length = ps.length → bindArgs (PySem.W.fnOf m q (defArgs st) (defBody st) (defScope st) .none kV doc pm an cdv ct) ⟨us, []⟩ = pure (ps.zip us))
    (S : FnScope N ps (defScope st)) (len : ∀ vs H Q E, sp vs H Q E → vs.length = ps.length)
    (hbody : ∀ (cdv : Value) (A : Around) (outer : List Env) (s : Shared) (H : Hp) (vs : List V) (Q : VK) (E : XK), Room k (A.deeper (envOfC q (defScope st) s.heap.objs.size f cdv)) → sp vs H Q E →
      ∃ t, PSs (cxOf CX0 P w K mg base N q (defScope st) f cdv A outer s H E).nox (defBody st) t ∧ t { nx := fun _ H' => Q .non H', rt := Q } (start N vs) H) : OkM P w K mg base CX0 (k + 1) C m ps sp := by
  obtain ⟨fd, F⟩ := e
  refine ⟨f, fd, F.ok S len fun cdv A outer s H vs Q E hr h => ?_, M, F.bindsN hb⟩
  obtain ⟨t, h1, h2⟩ := hbody cdv A outer s H vs Q E hr h
  exact ⟨t, h1.nox, h2⟩
theorem OkM.defX (e : ∃ fd, FnM K m q st f fd) (M : Meth K C m f)
    (hb : ∀ (kV doc pm : Value) (an : Option Addr) (cdv ct : Value) (us : List Value), us.length = ps.length → bindArgs (PySem.W.fnOf m q (defArgs st) (defBody st) (defScope st) .none kV doc pm an cdv ct) ⟨us, []⟩ = pure (ps.zip us))
    (S : FnScope N ps (defScope st)) (len : ∀ vs H Q E, sp vs H Q E → vs.length = ps.length)
    (hbody : ∀ (cdv : Value) (A : Around) (outer : List Env) (s : Shared) (H : Hp) (vs : List V) (Q : VK) (E : XK), Room k (A.deeper (envOfC q (defScope st) s.heap.objs.size f cdv)) → sp vs H Q E →
      Takes (cxOf (L2.CX P w) P w K mg base N q (defScope st) f cdv A outer s H E) (fun cls d _ H => E cls d H) →
      ∃ t, PSs (cxOf (L2.CX P w) P w K mg base N q (defScope st) f cdv A outer s H E) (defBody st) t ∧ t { nx := fun _ H' => Q .non H', rt := Q } (start N vs) H) : OkM P w K mg base (L2.CX P w) (k + 1) C m ps sp := by
  obtain ⟨fd, F⟩ := e
  exact ⟨f, fd, F.ok S len fun cdv A outer s H vs Q E hr h => hbody cdv A outer s H vs Q E hr h (takes_of rfl rfl rfl rfl), M, F.bindsN hb⟩
theorem OkK.defX (e : ∃ fd, FnM K m q st f fd) (M : Mk K C f) (g : mg x = some (.ref C))
    (hb : ∀ (kV doc pm : Value) (an : Option Addr) (cdv ct : Value) (us : List Value), us.length = ps.length → bindArgs (PySem.W.fnOf m q (defArgs st) (defBody st) (defScope st) .none kV doc pm an cdv ct) ⟨us, []⟩ = pure (ps.zip us))
    (S : FnScope N ps (defScope st)) (len : ∀ vs H Q E, sp vs H Q E → vs.length = ps.length)
    (hbody : ∀ (cdv : Value) (A : Around) (outer : List Env) (s : Shared) (H : Hp) (vs : List V) (Q : VK) (E : XK), Room k (A.deeper (envOfC q (defScope st) s.heap.objs.size f cdv)) → sp vs H Q E →
      Takes (cxOf (L2.CX P w) P w K mg base N q (defScope st) f cdv A outer s H E) (fun cls d _ H => E cls d H) →
      ∃ t, PSs (cxOf (L2.CX P w) P w K mg base N q (defScope st) f cdv A outer s H E) (defBody st) t ∧ t { nx := fun _ H' => Q .non H', rt := Q } (start N vs) H) : OkK P w K mg base (L2.CX P w) (k + 1) x C ps sp := by
  obtain ⟨fd, F⟩ := e
  exact ⟨f, fd, F.ok S len fun cdv A outer s H vs Q E hr h => hbody cdv A outer s H vs Q E hr h (takes_of rfl rfl rfl rfl), M, g, F.bindsN hb⟩
end
end L2
end
section
set_option maxRecDepth 100000
set_option maxHeartbeats 4000000
namespace K27
open PySem PySem.Spec PyProof.Rows L2
theorem lim_days : (("days" : Str), He.Dv.int 24) ∈ limits := List.mem_of_getElem? (i := 0) rfl
theorem lim_rains : (("rains" : Str), He.Dv.int 40) ∈ limits := List.mem_of_getElem? (i := 1) rfl
theorem lim_cans : (("cans" : Str), He.Dv.int (10 ^ 12)) ∈ limits := List.mem_of_getElem? (i := 2) rfl
section
variable {P : Program} {w : World} {K : PySem.W.Frag} {mg : Str → Option Value} {base : Heap}
abbrev cTM (K : PySem.W.Frag) : Addr := He.ga K "TooMany"
abbrev cSk (K : PySem.W.Frag) : Addr := He.ga K "BadSky"
abbrev cWe (K : PySem.W.Frag) : Addr := He.ga K "BadWeather"
abbrev cA (K : PySem.W.Frag) : Addr := He.ga K "Almanac"
theorem x_TooMany (T : Txt w K mg) : XOk P w K mg base 1 "TooMany" (cTM K) ["self", "what"] (spInit (cTM K) "what") := by
  obtain ⟨fd, F⟩ := fi_TooMany T
  refine ⟨_, fd, xt_TooMany T, F.ok (CX := CX0) sc_TooMany___init__ (fun vs H Q E h => ?_) (fun cdv A outer s H vs Q E hr h => ?_), g_TooMany T, F.bindsN (fun _ _ _ _ _ _ us hl => match us, hl with | [_, _], _ => rfl)⟩
  · obtain ⟨a, v, rfl, _⟩ := h
    rfl
  · obtain ⟨a, v, rfl, ha, k⟩ := h
    refine ⟨_, PSs.nox (pss_cons (ps_expr (pe_seinit (se T) rfl (g_SeenError T) (pa_cons (pv 0) (pa_cons pe_str pa_nil))))
      (pss_one (ps_ost (pv 0) (pv 1)))), ?_⟩
    refine ⟨_, rfl, a, cTM K, [.str _], rfl, (by show 1 ≤ 1000; decide), (xt_TooMany T).oex, ha, ?_⟩
    exact ⟨_, rfl, _, rfl, a, cTM K, rfl, (xt_TooMany T).oex, xn_TooMany_what T, .inl ⟨ha, fun dx hd hne => k dx hd hne⟩⟩
theorem x_BadSky (T : Txt w K mg) : XOk P w K mg base 1 "BadSky" (cSk K) ["self", "row"] (spInit (cSk K) "row") := by
  obtain ⟨fd, F⟩ := fi_BadSky T
  refine ⟨_, fd, xt_BadSky T, F.ok (CX := CX0) sc_BadSky___init__ (fun vs H Q E h => ?_) (fun cdv A outer s H vs Q E hr h => ?_), g_BadSky T, F.bindsN (fun _ _ _ _ _ _ us hl => match us, hl with | [_, _], _ => rfl)⟩
  · obtain ⟨a, v, rfl, _⟩ := h
    rfl
  · obtain ⟨a, v, rfl, ha, k⟩ := h
    refine ⟨_, PSs.nox (pss_cons (ps_expr (pe_seinit (se T) rfl (g_SeenError T) (pa_cons (pv 0) (pa_cons pe_str pa_nil))))
      (pss_one (ps_ost (pv 0) (pv 1)))), ?_⟩
    refine ⟨_, rfl, a, cSk K, [.str _], rfl, (by show 1 ≤ 1000; decide), (xt_BadSky T).oex, ha, ?_⟩
    exact ⟨_, rfl, _, rfl, a, cSk K, rfl, (xt_BadSky T).oex, xn_BadSky_row T, .inl ⟨ha, fun dx hd hne => k dx hd hne⟩⟩
theorem x_BadWeather (T : Txt w K mg) : XOk P w K mg base 1 "BadWeather" (cWe K) ["self", "day"] (spInit (cWe K) "day") := by
  obtain ⟨fd, F⟩ := fi_BadWeather T
  refine ⟨_, fd, xt_BadWeather T, F.ok (CX := CX0) sc_BadWeather___init__ (fun vs H Q E h => ?_) (fun cdv A outer s H vs Q E hr h => ?_), g_BadWeather T, F.bindsN (fun _ _ _ _ _ _ us hl => match us, hl with | [_, _], _ => rfl)⟩
  · obtain ⟨a, v, rfl, _⟩ := h
    rfl
  · obtain ⟨a, v, rfl, ha, k⟩ := h
    refine ⟨_, PSs.nox (pss_cons (ps_expr (pe_seinit (se T) rfl (g_SeenError T) (pa_cons (pv 0) (pa_cons pe_str pa_nil))))
      (pss_one (ps_ost (pv 0) (pv 1)))), ?_⟩
    refine ⟨_, rfl, a, cWe K, [.str _], rfl, (by show 1 ≤ 1000; decide), (xt_BadWeather T).oex, ha, ?_⟩
    exact ⟨_, rfl, _, rfl, a, cWe K, rfl, (xt_BadWeather T).oex, xn_BadWeather_day T, .inl ⟨ha, fun dx hd hne => k dx hd hne⟩⟩
def spCheck (K : PySem.W.Frag) : Sp := fun vs H Q E => ∃ (z : Str) (n m : Int), vs = [.str z, .int n] ∧ (z, He.Dv.int m) ∈ limits ∧ (n ≤ m → Q .non H) ∧ (m < n → Rz E H (cTM K) "what" (.str z))
theorem ok_check (T : Txt w K mg) : Ok P w K mg base (L2.CX P w) 4 "check" ["what", "number"] (spCheck K) := by
  refine Ok.defX (f_check T) (fun _ _ _ _ _ _ us hl => match us, hl with | [_, _], _ => rfl) sc_check (fun vs H Q E h => ?_) (fun f cdv A outer s H vs Q E hr h tk => ?_)
  · obtain ⟨z, n, m, rfl, _⟩ := h
    rfl
  · obtain ⟨z, n, m, rfl, hz, k1, k2⟩ := h
    refine ⟨_, (pss_one (ps_if (pt_cmpR op_gt (pv 1) (pe_ix ix_kdict (pe_glob (v := .ref _) rfl (g_LIMITS T) rfl) (pv 0) (fun _ _ => rfl)) (nomark _)) (pss_one (ps_raise rfl tk (pmk_x (x_TooMany T) (hr.mono (by first | decide | omega)) rfl (pa_cons (pv 0) pa_nil)))) pss_nil)), ?_⟩
    refine ⟨_, rfl, _, rfl, _, z, .int m, rfl, rfl, lim T hz, _, _, rfl, rfl, _, rfl, ?_⟩
    refine ite2 (fun c => ?_) (fun c => ?_)
    · exact ⟨_, rfl, mko ((k2 (of_decide_eq_true c)).at (Same.refl H))⟩
    · exact k1 (by simpa using c)
end
end K27
end
section
set_option maxRecDepth 100000
set_option maxHeartbeats 4000000
namespace K27
open PySem PySem.Spec PyProof.Rows L2
section
variable {P : Program} {w : World} {K : PySem.W.Frag} {mg : Str → Option Value} {base : Heap}
theorem ok__law_draw (T : Txt w K mg) : Ok P w K mg base CX0 1 "_law_draw" ["stock", "many"] spDraw := by
  refine Ok.def0 (f__law_draw T) (fun _ _ _ _ _ _ us hl => match us, hl with | [_, _], _ => rfl) sc__law_draw (fun vs H Q E h => ?_) (fun f cdv A outer s H vs Q E hr h => ?_)
  · obtain ⟨sa, m, rfl, _⟩ := h
    rfl
  · obtain ⟨sa, m, rfl, h0, h1, ⟨a, b, c, hs⟩, k⟩ := h
    have hm : m ≠ 0 := by omega
    refine ⟨_, (pss_cons (ps_if (pt_cmpR op_gt (pe_ix (ix_listK (K := K) rfl) (pv 0) pe_int (fun _ _ => rfl)) pe_int (nomark _)) (pss_cons (ps_set (i := 2) sc__law_draw.nd rfl (by first | exact Or.inl rfl | exact Or.inr rfl) (pe_op op_modN (pe_callTy call_int1 rfl (n_int T) (by decide +kernel) (pa_cons (pe_ix (ix_listK (K := K) rfl) (pv 0) pe_int (fun _ _ => rfl)) pa_nil)) (pv 1)))
      (pss_cons (ps_asg (pe_op op_fdivN (pe_ix (ix_listK (K := K) rfl) (pv 0) pe_int (fun _ _ => rfl)) (pv 1)) (pg_sub (pv 0) pe_int set_list))
      (pss_one (ps_ret (pv 2))))) pss_nil)
      (pss_cons (ps_augS (pv 0) pe_int (get_listK (K := K) rfl) pe_int ip_add set_list)
      (pss_cons (ps_asg (pe_op op_modN (pe_callTy call_int1 rfl (n_int T) (by decide +kernel) (pa_cons (pe_op op_add (pe_op op_mul (pe_ix (ix_listK (K := K) rfl) (pv 0) pe_int (fun _ _ => rfl)) pe_int) (pe_op op_mul (pe_ix (ix_listK (K := K) rfl) (pv 0) pe_int (fun _ _ => rfl)) pe_int)) pa_nil)) pe_int) (pg_sub (pv 0) pe_int set_list))
      (pss_one (ps_ret (pe_op op_modN (pe_op op_fdivN (pe_op op_modN (pe_callTy call_int1 rfl (n_int T) (by decide +kernel) (pa_cons (pe_op op_add (pe_op op_mul (pe_ix (ix_listK (K := K) rfl) (pv 0) pe_int (fun _ _ => rfl)) pe_int) (pe_op op_mul (pe_ix (ix_listK (K := K) rfl) (pv 0) pe_int (fun _ _ => rfl)) pe_int)) pa_nil)) pe_int) pe_int) (pv 1))))))), ?_⟩
    refine ⟨_, rfl, sa, _, 0, _, rfl, rfl, SqL.of hs, rfl, _, _, rfl, rfl, _, rfl, ?_⟩
    refine ite2 (fun c1 => ?_) (fun c1 => ?_)
    · refine ⟨_, rfl, sa, _, 0, _, rfl, rfl, SqL.of hs, rfl, .inl ⟨_, rfl, _, rfl, _, _, rfl, rfl, hm, ?_⟩⟩
      refine ⟨_, rfl, sa, _, 0, _, rfl, rfl, SqL.of hs, rfl, _, rfl, _, _, rfl, rfl, ⟨hm, by omega⟩, _, rfl, sa, _, 0, 0, rfl, rfl, hs, rfl, ?_⟩
      refine ⟨_, rfl, k _ _ _ _ (fmod_range a h0).1 (fmod_range a h0).2⟩
    · refine ⟨_, rfl, sa, _, 2, _, rfl, rfl, SqL.of hs, rfl, _, _, rfl, rfl, sa, _, 2, 2, rfl, rfl, hs, rfl, ?_⟩
      refine ⟨_, rfl, sa, _, 1, _, rfl, rfl, SqL.of upd_same, rfl, _, _, rfl, rfl, .inr (by decide), _, rfl, sa, _, 2, _, rfl, rfl, SqL.of upd_same, rfl, _, _, rfl, rfl, .inr (by decide), _, _, rfl, rfl, .inl ⟨_, rfl, _, _, rfl, rfl, (by show (2147483647 : Int) ≠ 0; decide), _, rfl, sa, _, 1, 1, rfl, rfl, upd_same, rfl, ?_⟩⟩
      refine ⟨_, rfl, sa, _, 1, _, rfl, rfl, SqL.of upd_same, rfl, _, _, rfl, rfl, .inr (by decide), _, rfl, sa, _, 2, _, rfl, rfl, SqL.of upd_same, rfl, _, _, rfl, rfl, .inr (by decide), _, _, rfl, rfl, .inl ⟨_, rfl, _, _, rfl, rfl, (by show (2147483629 : Int) ≠ 0; decide), _, _, rfl, rfl, ⟨by decide, by decide⟩, _, rfl, _, _, rfl, rfl, hm, ?_⟩⟩
      rw [upd_upd]
      exact k _ _ _ _ (fmod_range _ h0).1 (fmod_range _ h0).2
theorem ok__law_stock (T : Txt w K mg) : Ok P w K mg base CX0 1 "_law_stock" ["script", "at"] (spStock K) := by
  refine Ok.def0 (f__law_stock T) (fun _ _ _ _ _ _ us hl => match us, hl with | [_, _], _ => rfl) sc__law_stock (fun vs H Q E h => ?_) (fun f cdv A outer s H vs Q E hr h => ?_)
  · obtain ⟨a, ns, z, rfl, _⟩ := h
    rfl
  · obtain ⟨a, ns, z, rfl, hS, hl, h0, h1, k⟩ := h
    refine ⟨_, (pss_cons (ps_set (i := 3) sc__law_stock.nd rfl (by first | exact Or.inl rfl | exact Or.inr rfl) (pe_ifExp (pt_cmpR op_lt (pv 1) (pe_callB (len_seqK (K := K) rfl) rfl (n_len T) (by decide +kernel) (pa_cons (pv 0) pa_nil)) (nomark _)) (pe_callTy call_int1 rfl (n_int T) (by decide +kernel) (pa_cons (pe_ix (ix_listK (K := K) rfl) (pv 0) (pv 1) (fun _ _ => rfl)) pa_nil)) (pe_op op_mul pe_int (pe_callB (sumK (K := K) rfl rfl) rfl (n_sum T) (by decide +kernel) (pa_cons (pe_lc (own := [("one", 2)]) rfl sc__law_stock.nd (pi_listK (K := K) rfl (pe_slice (sl_listK (K := K) rfl) (pv 0) po_none (po_some pe_int))) (blkOk_by (N := ["script", "at", "one", "cell", "size", "small"]) (sc := defScope s__law_stock) (by decide +kernel)) (fun _ _ _ _ _ => (pg_name (i := 2) sc__law_stock.nd rfl (by first | exact Or.inl rfl | exact Or.inr rfl))) (fun _ _ _ _ _ => pts_nil) (fun _ _ _ _ _ => (pe_op op_modN (pe_callTy call_int1 rfl (n_int T) (by decide +kernel) (pa_cons (pv 2) pa_nil)) pe_int))) pa_nil)))))
      (pss_cons (ps_set (i := 4) sc__law_stock.nd rfl (by first | exact Or.inl rfl | exact Or.inr rfl) (pe_callB call_abs rfl (n_abs T) (by decide +kernel) (pa_cons (pv 3) pa_nil)))
      (pss_cons (ps_set (i := 5) sc__law_stock.nd rfl (by first | exact Or.inl rfl | exact Or.inr rfl) (pe_op op_modN (pe_callTy call_int1 rfl (n_int T) (by decide +kernel) (pa_cons (pe_op op_add (pe_op op_add (pe_op op_add (pe_op op_mul pe_int (pv 4)) (pe_ifExp (pt_cmpR op_lt (pv 3) pe_int (nomark _)) pe_int pe_int)) (pe_op op_mul (pv 1) pe_int)) pe_int) pa_nil)) pe_int))
      (pss_one (ps_ret (pe_lst (pa_cons (pe_ifExp (pt_cmpR op_ge (pv 4) (pe_op op_pow pe_int pe_int) (nomark _)) (pv 4) pe_int) (pa_cons (pe_op op_modN (pe_callTy call_int1 rfl (n_int T) (by decide +kernel) (pa_cons (pe_op op_mul (pe_op op_add (pv 5) pe_int) (pe_op op_add (pv 5) pe_int)) pa_nil)) pe_int) (pa_cons (pv 1) pa_nil))))))))), ?_⟩
    refine st_let (fun v H' => ∃ c, v = .int c ∧ Same H H') (fun R hR => ?_) (fun v H1 hv => ?_)
    · refine ⟨_, rfl, _, rfl, _, _, rfl, .inl hS, _, _, rfl, rfl, _, rfl, ?_⟩
      refine ite2 (fun c1 => ?_) (fun c1 => ?_)
      · have c2 : z < (ns.map V.int).length := of_decide_eq_true c1
        rw [ints_len] at c2
        obtain ⟨n, hn⟩ : ∃ n, ns[z.toNat]? = some n := ⟨ns[z.toNat]'(by omega), List.getElem?_eq_getElem (by omega)⟩
        exact ⟨_, rfl, _, rfl, a, _, z, _, rfl, rfl, hS, atI_int h0 (ints_at hn), .inl ⟨_, rfl, hR _ _ ⟨_, rfl, Same.refl H⟩⟩⟩
      · obtain ⟨ms, e1, e2⟩ := cutV_map V.int ns none (some 4)
        refine ⟨_, rfl, _, rfl, a, _, rfl, hS, fun p hp => ?_⟩
        rw [e1]
        have s1 : Same H (upd H p (.lst (ms.map V.int))) := same_new hp
        refine ⟨p, rfl, ⟨_, SqL.of upd_same⟩, fun D hD => lc_acc (K := K) (a := p) (xs := ms.map V.int) hD (SqL.of upd_same) (by rw [ints_len, e2]; exact Nat.lt_of_le_of_lt (List.length_take_le' _ _) (by rw [List.length_drop]; omega)) (fun i acc H' => ∃ zs : List Int, acc = zs.map V.int) (fun _ _ => ⟨[], rfl⟩) ?_ ?_⟩
        · rintro i x acc H' N N0 hx s2 hacc ⟨zs, rfl⟩ hN hN0
          obtain ⟨y, hy, rfl⟩ := ints_get hx
          refine ⟨rfl, ?_⟩
          exact ⟨_, rfl, .inl ⟨_, rfl, _, _, rfl, rfl, (by show (1000003 : Int) ≠ 0; decide), hN _ _ (Same.refl _) fun _ _ _ => ⟨zs ++ [y.fmod 1000003], by rw [List.map_append]; rfl⟩⟩⟩
        · rintro acc H' s2 hacc _ ⟨zs, rfl⟩
          exact ⟨D, zs, rfl, SqL.of hacc, _, _, rfl, rfl, .inl (by decide), hR _ _ ⟨_, rfl, s1.trans s2⟩⟩
    · obtain ⟨c, rfl, s1⟩ := hv
      -- size = abs(cell)
      refine ⟨_, rfl, _, rfl, ?_⟩
      generalize hsz : (if c < 0 then -c else c) = size
      -- small = ..
      refine nxE (st_let (fun v H' => ∃ d : Int, v = .int d ∧ 0 ≤ d ∧ d < 2147483629 ∧ H' = H1) (fun R hR => ?_) (fun v H2 hv => ?_))
      · refine ⟨_, rfl, _, _, rfl, rfl, .inl (by decide), ?_⟩
        have fin : ∀ k : Int, R (.int ((2 * size + k + z * 104729 + 12345).fmod 2147483629)) H1 := fun k => hR _ _ ⟨_, rfl, (fmod_range _ (by decide)).1, (fmod_range _ (by decide)).2, rfl⟩
        refine ⟨_, rfl, _, _, rfl, rfl, _, rfl, ?_⟩
        refine ite2 (fun c1 => ?_) (fun c1 => ?_)
        · exact ⟨_, _, rfl, rfl, _, rfl, _, _, rfl, rfl, .inr (by decide), _, _, rfl, rfl, _, _, rfl, rfl, .inl ⟨_, rfl, _, _, rfl, rfl, (by show (2147483629 : Int) ≠ 0; decide), fin 1⟩⟩
        · exact ⟨_, _, rfl, rfl, _, rfl, _, _, rfl, rfl, .inr (by decide), _, _, rfl, rfl, _, _, rfl, rfl, .inl ⟨_, rfl, _, _, rfl, rfl, (by show (2147483629 : Int) ≠ 0; decide), fin 0⟩⟩
      · obtain ⟨d, rfl, d0, d1, rfl⟩ := hv
        -- return [..]
        have fin : ∀ e : Int, ∀ p, H2 p = none → Q (.ref p) (upd H2 p (.lst [.int e, .int (((d + 7919) * (d + 104729)).fmod 2147483629), .int z])) := fun e p hp => k p _ (s1.free hp) (s1.trans (same_new hp)) ⟨_, _, _, upd_same⟩
        refine ⟨_, rfl, _, _, rfl, rfl, ⟨by decide, by decide, by decide⟩, _, _, rfl, rfl, _, rfl, ?_⟩
        refine ite2 (fun c1 => ?_) (fun c1 => ?_)
        · exact ⟨_, rfl, _, rfl, _, _, rfl, rfl, _, rfl, _, _, rfl, rfl, _, _, rfl, rfl, .inl ⟨by show -(2 ^ 64) < d + 7919; omega, by show d + 7919 < 2 ^ 64; omega⟩, .inl ⟨_, rfl, _, _, rfl, rfl, (by show (2147483629 : Int) ≠ 0; decide), _, rfl, (by show 3 ≤ sizeLine; decide), fun p hp => fin _ p hp⟩⟩
        · exact ⟨_, rfl, _, _, rfl, rfl, _, rfl, _, _, rfl, rfl, _, _, rfl, rfl, .inl ⟨by show -(2 ^ 64) < d + 7919; omega, by show d + 7919 < 2 ^ 64; omega⟩, .inl ⟨_, rfl, _, _, rfl, rfl, (by show (2147483629 : Int) ≠ 0; decide), _, rfl, (by show 3 ≤ sizeLine; decide), fun p hp => fin _ p hp⟩⟩
end
end K27
end
section
set_option maxRecDepth 100000
set_option maxHeartbeats 4000000
namespace K27
open PySem PySem.Spec PyProof.Rows L2
section
variable {P : Program} {w : World} {K : PySem.W.Frag} {mg : Str → Option Value} {base : Heap}
theorem mt_gen {k : Nat} {sp0 : Sp} {R : Hp → V → V → Prop} (T : Txt w K mg) (ok__law_matches : Txt w K mg → Ok P w K mg base CX0 k "_law_matches" ["answer", "due"] sp0) (hR : ∀ H v u Q, R H v u → (∀ H', Same H H' → Q (.bl true) H') → sp0 [v, u] H Q E0)
    (hS : ∀ H H' v u, Same H H' → R H v u → R H' v u) : Ok P w K mg base CX0 (k + 1) "_law_matches" ["answer", "due"] (spMt fun H v u => Leaf v u ∨ Comp R H v u) := by
  refine Ok.def0 (f__law_matches T) (fun _ _ _ _ _ _ us hl => match us, hl with | [_, _], _ => rfl) sc__law_matches (fun vs H Q E h => ?_) (fun f cdv A outer s H vs Q E hr h => ?_)
  · obtain ⟨v, u, rfl, _⟩ := h
    rfl
  · obtain ⟨v, u, rfl, h, q⟩ := h
    refine ⟨_, (pss_cons (ps_if (PW.pt (pw_or (pt_cmpR op_isN (pv 1) pe_non (nomark _)) (pw_or1 (pt_cmpR op_isN (pv 0) pe_non (nomark _))))) (pss_one (ps_ret (pe_and (pe_cmpR op_isN (pv 1) pe_non (nomark _)) (pe_one (pe_cmpR op_isN (pv 0) pe_non (nomark _)))))) pss_nil)
      (pss_cons (ps_if (PW.pt (pw_or (pt_val (pe_callB (isiK (K := K) rfl) rfl (n_isinstance T) (by decide +kernel) (pa_cons (pv 1) (pa_cons (pe_bltn (v := .ty "bool") (u := .type "bool") rfl (n_bool T) (by decide +kernel) rfl) pa_nil)))) (pw_or1 (pt_val (pe_callB (isiK (K := K) rfl) rfl (n_isinstance T) (by decide +kernel) (pa_cons (pv 0) (pa_cons (pe_bltn (v := .ty "bool") (u := .type "bool") rfl (n_bool T) (by decide +kernel) rfl) pa_nil))))))) (pss_one (ps_ret (pe_and (pe_callB (isiK (K := K) rfl) rfl (n_isinstance T) (by decide +kernel) (pa_cons (pv 1) (pa_cons (pe_bltn (v := .ty "bool") (u := .type "bool") rfl (n_bool T) (by decide +kernel) rfl) pa_nil))) (pe_and (pe_callB (isiK (K := K) rfl) rfl (n_isinstance T) (by decide +kernel) (pa_cons (pv 0) (pa_cons (pe_bltn (v := .ty "bool") (u := .type "bool") rfl (n_bool T) (by decide +kernel) rfl) pa_nil))) (pe_one (pe_cmpR op_eq (pv 0) (pv 1) (nomark _))))))) pss_nil)
      (pss_cons (ps_if (pt_val (pe_callB (isiK (K := K) rfl) rfl (n_isinstance T) (by decide +kernel) (pa_cons (pv 1) (pa_cons (pe_bltn (v := .ty "int") (u := .type "int") rfl (n_int T) (by decide +kernel) rfl) pa_nil)))) (pss_one (ps_ret (pe_and (pe_callB (isiK (K := K) rfl) rfl (n_isinstance T) (by decide +kernel) (pa_cons (pv 0) (pa_cons (pe_bltn (v := .ty "int") (u := .type "int") rfl (n_int T) (by decide +kernel) rfl) pa_nil))) (pe_one (pe_cmpR op_eq (pv 0) (pv 1) (nomark _)))))) pss_nil)
      (pss_cons (ps_if (pt_val (pe_callB (isiK (K := K) rfl) rfl (n_isinstance T) (by decide +kernel) (pa_cons (pv 1) (pa_cons (pe_bltn (v := .ty "str") (u := .type "str") rfl (n_str T) (by decide +kernel) rfl) pa_nil)))) (pss_one (ps_ret (pe_and (pe_callB (isiK (K := K) rfl) rfl (n_isinstance T) (by decide +kernel) (pa_cons (pv 0) (pa_cons (pe_bltn (v := .ty "str") (u := .type "str") rfl (n_str T) (by decide +kernel) rfl) pa_nil))) (pe_one (pe_cmpR op_eq (pv 0) (pv 1) (nomark _)))))) pss_nil)
      (pss_cons (ps_if (pt_val (pe_callB (isiK (K := K) rfl) rfl (n_isinstance T) (by decide +kernel) (pa_cons (pv 1) (pa_cons (pe_bltn (v := .ty "dict") (u := .type "dict") rfl (n_dict T) (by decide +kernel) rfl) pa_nil)))) (pss_cons (ps_if (PW.pt (pw_or (pt_not (pt_val (pe_callB (isiK (K := K) rfl) rfl (n_isinstance T) (by decide +kernel) (pa_cons (pv 0) (pa_cons (pe_bltn (v := .ty "dict") (u := .type "dict") rfl (n_dict T) (by decide +kernel) rfl) pa_nil))))) (pw_or1 (pt_cmpR op_ne (pe_callB (len_seqK (K := K) rfl) rfl (n_len T) (by decide +kernel) (pa_cons (pv 0) pa_nil)) (pe_callB (len_seqK (K := K) rfl) rfl (n_len T) (by decide +kernel) (pa_cons (pv 1) pa_nil)) (nomark _))))) (pss_one (ps_ret pe_bl)) pss_nil)
      (pss_cons (ps_for PassesOwn.never rfl (pi_listK (K := K) rfl (pe_callTy (list_ofK (K := K) rfl) rfl (n_list T) (by decide +kernel) (pa_cons (pv 1) pa_nil))) (pg_name (i := 2) sc__law_matches.nd rfl (by first | exact Or.inl rfl | exact Or.inr rfl))
        (pss_one (ps_if (PW.pt (pw_or (pt_cmpR op_notIn_seq (pv 2) (pv 0) (by with_unfolding_all rfl)) (pw_or1 (pt_not (pt_val (pe_ok (ok__law_matches T) (hr.mono (by first | decide | omega)) rfl pass0 (pa_cons (pe_ix (ix_seqK (K := K) rfl) (pv 0) (pv 2) (fun _ _ => rfl)) (pa_cons (pe_ix (ix_seqK (K := K) rfl) (pv 1) (pv 2) (fun _ _ => rfl)) pa_nil)))))))) (pss_one (ps_ret pe_bl)) pss_nil)))
      (pss_one (ps_ret pe_bl)))) pss_nil)
      (pss_cons (ps_if (PW.pt (pw_and (pt_val (pe_callB (isiK (K := K) rfl) rfl (n_isinstance T) (by decide +kernel) (pa_cons (pv 1) (pa_cons (pe_bltn (v := .ty "tuple") (u := .type "tuple") rfl (n_tuple T) (by decide +kernel) rfl) pa_nil)))) (pw_and1 (pt_not (pt_val (pe_callB (isiK (K := K) rfl) rfl (n_isinstance T) (by decide +kernel) (pa_cons (pv 0) (pa_cons (pe_bltn (v := .ty "tuple") (u := .type "tuple") rfl (n_tuple T) (by decide +kernel) rfl) pa_nil)))))))) (pss_one (ps_ret pe_bl)) pss_nil)
      (pss_cons (ps_if (PW.pt (pw_and (pt_val (pe_callB (isiK (K := K) rfl) rfl (n_isinstance T) (by decide +kernel) (pa_cons (pv 1) (pa_cons (pe_bltn (v := .ty "list") (u := .type "list") rfl (n_list T) (by decide +kernel) rfl) pa_nil)))) (pw_and1 (pt_not (pt_val (pe_callB (isiK (K := K) rfl) rfl (n_isinstance T) (by decide +kernel) (pa_cons (pv 0) (pa_cons (pe_bltn (v := .ty "list") (u := .type "list") rfl (n_list T) (by decide +kernel) rfl) pa_nil)))))))) (pss_one (ps_ret pe_bl)) pss_nil)
      (pss_cons (ps_if (pt_cmpR op_ne (pe_callB (len_seqK (K := K) rfl) rfl (n_len T) (by decide +kernel) (pa_cons (pv 0) pa_nil)) (pe_callB (len_seqK (K := K) rfl) rfl (n_len T) (by decide +kernel) (pa_cons (pv 1) pa_nil)) (nomark _)) (pss_one (ps_ret pe_bl)) pss_nil)
      (pss_cons (ps_for PassesOwn.never rfl (pi_range1 rfl (n_range T) (pa_cons (pe_callB (len_seqK (K := K) rfl) rfl (n_len T) (by decide +kernel) (pa_cons (pv 1) pa_nil)) pa_nil)) (pg_name (i := 3) sc__law_matches.nd rfl (by first | exact Or.inl rfl | exact Or.inr rfl))
        (pss_one (ps_if (pt_not (pt_val (pe_ok (ok__law_matches T) (hr.mono (by first | decide | omega)) rfl pass0 (pa_cons (pe_ix (ix_seqK (K := K) rfl) (pv 0) (pv 3) (fun _ _ => rfl)) (pa_cons (pe_ix (ix_seqK (K := K) rfl) (pv 1) (pv 3) (fun _ _ => rfl)) pa_nil))))) (pss_one (ps_ret pe_bl)) pss_nil)))
      (pss_one (ps_ret pe_bl))))))))))), ?_⟩
    rcases h with h | h
    · rcases h with ⟨n, rfl, rfl⟩ | ⟨z, rfl, rfl⟩
      · refine ⟨_, rfl, rfl, _, rfl, iteF ⟨_, rfl, rfl, _, rfl, iteF ?_⟩⟩
        refine ⟨_, rfl, ⟨_, _, _, _, _, rfl, .ty _, tx_int _, k_ib, _, rfl, iteF ⟨_, rfl, ⟨_, _, _, _, _, rfl, .ty _, tx_int _, k_ib, _, rfl, iteF ?_⟩⟩⟩⟩
        refine ⟨_, rfl, ⟨_, _, _, _, _, rfl, .ty _, tx_int _, k_ii, _, rfl, iteT ⟨_, rfl, ⟨_, _, _, _, _, rfl, .ty _, tx_int _, k_ii, _, rfl, iteT ⟨_, rfl, _, rfl, rfl, ?_⟩⟩⟩⟩⟩
        rw [decide_eq_true rfl]
        exact q _ (Same.refl _)
      · refine ⟨_, rfl, rfl, _, rfl, iteF ⟨_, rfl, rfl, _, rfl, iteF ?_⟩⟩
        refine ⟨_, rfl, ⟨_, _, _, _, _, rfl, .ty _, tx_str _, k_sb, _, rfl, iteF ⟨_, rfl, ⟨_, _, _, _, _, rfl, .ty _, tx_str _, k_sb, _, rfl, iteF ?_⟩⟩⟩⟩
        refine ⟨_, rfl, ⟨_, _, _, _, _, rfl, .ty _, tx_str _, k_si, _, rfl, iteF ?_⟩⟩
        refine ⟨_, rfl, ⟨_, _, _, _, _, rfl, .ty _, tx_str _, k_ss, _, rfl, iteT ⟨_, rfl, ⟨_, _, _, _, _, rfl, .ty _, tx_str _, k_ss, _, rfl, iteT ⟨_, rfl, _, rfl, rfl, ?_⟩⟩⟩⟩⟩
        rw [decide_eq_true rfl]
        exact q _ (Same.refl _)
    · obtain ⟨a, b, xs, ys, rfl, rfl, h, hl, hz, hr⟩ := h
      refine ⟨_, rfl, rfl, _, rfl, iteF ⟨_, rfl, rfl, _, rfl, iteF ?_⟩⟩
      rcases h with ⟨ha, hb⟩ | ⟨ha, hb⟩
      · refine ⟨_, rfl, ⟨_, _, _, _, _, rfl, .ty _, tx_lst hb, k_lb, _, rfl, iteF ⟨_, rfl, ⟨_, _, _, _, _, rfl, .ty _, tx_lst ha, k_lb, _, rfl, iteF ?_⟩⟩⟩⟩
        refine ⟨_, rfl, ⟨_, _, _, _, _, rfl, .ty _, tx_lst hb, k_li, _, rfl, iteF ?_⟩⟩
        refine ⟨_, rfl, ⟨_, _, _, _, _, rfl, .ty _, tx_lst hb, k_ls, _, rfl, iteF ?_⟩⟩
        refine ⟨_, rfl, ⟨_, _, _, _, _, rfl, .ty _, tx_lst hb, k_ld, _, rfl, iteF ?_⟩⟩
        refine ⟨_, rfl, ⟨_, _, _, _, _, rfl, .ty _, tx_lst hb, k_lt, _, rfl, iteF ?_⟩⟩
        refine ⟨_, rfl, ⟨_, _, _, _, _, rfl, .ty _, tx_lst hb, k_ll, _, rfl, iteT ⟨_, rfl, ⟨_, _, _, _, _, rfl, .ty _, tx_lst ha, k_ll, _, rfl, iteF ?_⟩⟩⟩⟩
        refine ⟨_, rfl, _, _, rfl, .inl (SqL.of ha), _, rfl, _, _, rfl, .inl (SqL.of hb), rfl, _, rfl, ?_⟩
        rw [hl, decide_eq_true rfl]
        refine iteF ⟨_, rfl, _, _, rfl, .inl (SqL.of hb), _, rfl, by omega, by omega, for_upto (lo := 0) (L := ys.length) (by omega) (fun i σ H' => ∃ v3, σ = [some (.ref a), some (.ref b), none, v3] ∧ Same H H') ⟨none, rfl, Same.refl H⟩ ?_ ?_⟩
        · rintro i σ H' hi ⟨v3, rfl, e⟩
          obtain ⟨x, hx⟩ : ∃ x, xs[i]? = some x := ⟨xs[i]'(by omega), List.getElem?_eq_getElem _⟩
          obtain ⟨y, hy⟩ : ∃ y, ys[i]? = some y := ⟨ys[i], List.getElem?_eq_getElem _⟩
          refine ⟨_, rfl, _, rfl, .inl ⟨a, _, _, _, rfl, rfl, e.seq (SqL.of ha), at_of (by omega) hx, _, rfl, _, rfl, .inl ⟨b, _, _, _, rfl, rfl, e.seq (SqL.of hb), at_of (by omega) hy, ?_⟩⟩⟩
          exact hR _ _ _ _ (hS _ _ _ _ e (hr i x y hx hy)) fun H2 s2 => ⟨_, rfl, _, rfl, e.trans s2⟩
        · rintro σ H' ⟨v3, rfl, e⟩
          exact q _ e
      · refine ⟨_, rfl, ⟨_, _, _, _, _, rfl, .ty _, tx_tup hb, k_tb, _, rfl, iteF ⟨_, rfl, ⟨_, _, _, _, _, rfl, .ty _, tx_tup ha, k_tb, _, rfl, iteF ?_⟩⟩⟩⟩
        refine ⟨_, rfl, ⟨_, _, _, _, _, rfl, .ty _, tx_tup hb, k_ti, _, rfl, iteF ?_⟩⟩
        refine ⟨_, rfl, ⟨_, _, _, _, _, rfl, .ty _, tx_tup hb, k_ts, _, rfl, iteF ?_⟩⟩
        refine ⟨_, rfl, ⟨_, _, _, _, _, rfl, .ty _, tx_tup hb, k_td, _, rfl, iteF ?_⟩⟩
        refine ⟨_, rfl, ⟨_, _, _, _, _, rfl, .ty _, tx_tup hb, k_tt, _, rfl, iteT ⟨_, rfl, ⟨_, _, _, _, _, rfl, .ty _, tx_tup ha, k_tt, _, rfl, iteF ?_⟩⟩⟩⟩
        refine ⟨_, rfl, ⟨_, _, _, _, _, rfl, .ty _, tx_tup hb, k_tl, _, rfl, iteF ?_⟩⟩
        refine ⟨_, rfl, _, _, rfl, .inr (SqT.of ha), _, rfl, _, _, rfl, .inr (SqT.of hb), rfl, _, rfl, ?_⟩
        rw [hl, decide_eq_true rfl]
        refine iteF ⟨_, rfl, _, _, rfl, .inr (SqT.of hb), _, rfl, by omega, by omega, for_upto (lo := 0) (L := ys.length) (by omega) (fun i σ H' => ∃ v3, σ = [some (.ref a), some (.ref b), none, v3] ∧ Same H H') ⟨none, rfl, Same.refl H⟩ ?_ ?_⟩
        · rintro i σ H' hi ⟨v3, rfl, e⟩
          obtain ⟨x, hx⟩ : ∃ x, xs[i]? = some x := ⟨xs[i]'(by omega), List.getElem?_eq_getElem _⟩
          obtain ⟨y, hy⟩ : ∃ y, ys[i]? = some y := ⟨ys[i], List.getElem?_eq_getElem _⟩
          refine ⟨_, rfl, _, rfl, .inr (.inl ⟨a, _, _, _, rfl, rfl, e.tup (SqT.of ha), at_of (by omega) hx, _, rfl, _, rfl, .inr (.inl ⟨b, _, _, _, rfl, rfl, e.tup (SqT.of hb), at_of (by omega) hy, ?_⟩)⟩)⟩
          exact hR _ _ _ _ (hS _ _ _ _ e (hr i x y hx hy)) fun H2 s2 => ⟨_, rfl, _, rfl, e.trans s2⟩
        · rintro σ H' ⟨v3, rfl, e⟩
          exact q _ e
theorem ok_mt0 (T : Txt w K mg) : Ok P w K mg base CX0 1 "_law_matches" ["answer", "due"] (spMt (Mt 0)) :=
  (mt_gen (k := 0) (sp0 := fun _ _ _ _ => False) (R := fun _ _ _ => False) T (fun T => Ok.never (f__law_matches T) (fun _ _ _ _ _ _ us hl => match us, hl with | [_, _], _ => rfl)) (fun _ _ _ _ h _ => h.elim) (fun _ _ _ _ _ h => h)).imp fun vs H Q E ⟨v, u, e, h, q⟩ => ⟨v, u, e, .inl h, q⟩
theorem ok_mt1 (T : Txt w K mg) : Ok P w K mg base CX0 2 "_law_matches" ["answer", "due"] (spMt (Mt 1)) :=
  mt_gen (k := 1) T (fun T => ok_mt0 T) (fun _ v u _ h q => ⟨v, u, rfl, h, q⟩) (fun _ _ _ _ e h => h.same (k := 0) e)
theorem ok_mt2 (T : Txt w K mg) : Ok P w K mg base CX0 3 "_law_matches" ["answer", "due"] (spMt (Mt 2)) :=
  mt_gen (k := 2) T (fun T => ok_mt1 T) (fun _ v u _ h q => ⟨v, u, rfl, h, q⟩) (fun _ _ _ _ e h => Mt.same (k := 1) e h)
end
end K27
end
section
set_option maxRecDepth 100000
set_option maxHeartbeats 4000000
namespace L2
open PySem PySem.Spec PyProof.Rows
/-! ### lists of couples compared -/
def dP (c : Int × Int) : PyData := .tuple [.int c.1, .int c.2]
theorem dp_pair {K : PySem.W.Frag} {H : Hp} {x : V} {c : Int × Int} (h : PairT H x c) : Dp K H x (dP c) := by
  obtain ⟨t, rfl, h⟩ := h
  exact .tup (SqT.of h) (.cons (.int _) (.cons (.int _) .nil))
theorem dp_pairall {K : PySem.W.Frag} {H : Hp} {xs : List V} {ws : List (Int × Int)} (h : Paired (PairT H) xs ws) : DpAll K H xs (ws.map dP) := by
  induction h with
  | nil => exact .nil
  | cons a _ ih => exact .cons (dp_pair a) ih
theorem dp_pairs {K : PySem.W.Frag} {H : Hp} {a : Addr} {xs : List V} {ws : List (Int × Int)} (ha : H a = some (.lst xs)) (h : Paired (PairT H) xs ws) : Dp K H (.ref a) (.list (ws.map dP)) := .lst (SqL.of ha) (dp_pairall h)
theorem lay_pairall : ∀ ws : List (Int × Int), PyData.canLayAll0 (ws.map dP) = true
  | [] => by rw [List.map_nil]; unfold PyData.canLayAll0; rfl
  | c :: r => by
    rw [List.map_cons]
    unfold PyData.canLayAll0
    rw [lay_pairall r]
    unfold dP PyData.canLay0 PyData.canLayAll0 PyData.canLay0 PyData.canLayAll0 PyData.canLay0 PyData.canLayAll0
    rfl
theorem lay_pairs (ws : List (Int × Int)) : (PyData.list (ws.map dP)).canLay0 = true := by
  unfold PyData.canLay0
  exact lay_pairall ws
theorem dep_pairall : ∀ ws : List (Int × Int), PyData.depthAll (ws.map dP) ≤ 2
  | [] => by rw [List.map_nil]; unfold PyData.depthAll; exact Nat.zero_le _
  | c :: r => by
    rw [List.map_cons]
    unfold PyData.depthAll
    have h := dep_pairall r
    have e : (dP c).depth ≤ 2 := by
      unfold dP PyData.depth PyData.depthAll PyData.depth PyData.depthAll PyData.depth PyData.depthAll
      decide
    omega
theorem shaped_pairs (ws : List (Int × Int)) : SeqAt.shaped (PyData.list (ws.map dP)) = true := by
  unfold SeqAt.shaped
  rw [lay_pairs]
  have h := dep_pairall ws
  have e : (PyData.list (ws.map dP)).depth ≤ 64 := by
    unfold PyData.depth
    omega
  rw [decide_eq_true e]
  rfl
theorem ne_pairs {K : PySem.W.Frag} {H : Hp} {a b : Addr} {xs ys : List V} {ws : List (Int × Int)} {Q : VK} (ha : H a = some (.lst xs)) (hb : H b = some (.lst ys)) (h1 : Paired (PairT H) xs ws) (h2 : Paired (PairT H) ys ws) (q : Q (.bl false) H) : rNeD K (.ref a) (.ref b) H Q := by
  refine ⟨_, _, dp_pairs ha h1, dp_pairs hb h2, shaped_pairs ws, shaped_pairs ws, ?_⟩
  rw [SeqAt.eqv_refl _ (lay_pairs ws)]
  exact q
end L2
end
section
set_option maxRecDepth 100000
set_option maxHeartbeats 4000000
/-! the end of a row whose law asks that no repr is under way (after the end with tables) -/
namespace LamX
open PySem PySem.Spec PyProof.Rows L2
/-! ### the first state: nothing is tracked but the empty tables and, where it is not in the written part, the script -/
abbrev tabO : Obj := { cls := .none, data := .fields #[] }
abbrev scrO (us : List Value) : Obj := { cls := .type "list", data := .seq us.toArray }
structure First (K : PySem.W.Frag) (h : Heap) (T : List Addr) (a : Addr) (us : List Value) (ns : List Int) (H : Hp) : Prop where
  tab : ∀ b ∈ T, H b = some (.tbl #[])
  only : ∀ b u, H b = some u → (b ∈ T ∧ u = .tbl #[]) ∨ (b = a ∧ K.lookup a = none ∧ u = .frz (scrO us) (.lst (ns.map V.int)))
  seq : SqL K H a (ns.map V.int)
section
variable {P : Program} {w : World} {K : PySem.W.Frag} {h : Heap} {T : List Addr} {a : Addr} {us : List Value} {ns : List Int} {H : Hp}
theorem first_ex (KX : K.In h) (ha : h.get? a = some (scrO us)) (hT : ∀ b ∈ T, h.get? b = some tabO) (hi : IntsAre us ns) (hl : ns.length ≤ sizeLine) : ∃ H, First K h T a us ns H := by
  have out : ∀ b ∈ T, b ≠ a := fun b hb e => by
    have q := hT b hb
    rw [e, ha] at q
    have := congrArg Obj.data (Option.some.inj q)
    cases this
  cases hk : K.lookup a with
  | some o =>
    have eo : o = scrO us := Option.some.inj ((KX a o hk).symm.trans ha)
    subst eo
    refine ⟨fun b => if b ∈ T then some (.tbl #[]) else none, fun b hb => if_pos hb, fun b u e => ?_, .inr ⟨scrO us, us.toArray, _, hk, rfl, rfl, rfl, ?_, ?_⟩⟩
    · by_cases m : b ∈ T
      · exact .inl ⟨m, Option.some.inj (e.symm.trans (if_pos m))⟩
      · cases (if_neg m).symm.trans e
    · rw [List.size_toArray, hi.length]; exact hl
    · have := vals_ints hi
      simpa using this
  | none =>
    refine ⟨fun b => if b ∈ T then some (.tbl #[]) else if b = a then some (.frz (scrO us) (.lst (ns.map V.int))) else none, fun b hb => if_pos hb, fun b u e => ?_, .inl (.inr ⟨scrO us, ?_⟩)⟩
    · by_cases m : b ∈ T
      · exact .inl ⟨m, Option.some.inj (e.symm.trans (if_pos m))⟩
      · have e := (if_neg m).symm.trans e
        by_cases q : b = a
        · exact .inr ⟨q, hk, Option.some.inj (e.symm.trans (if_pos q))⟩
        · cases (if_neg q).symm.trans e
    · show (if a ∈ T then some (HO.tbl #[]) else if a = a then _ else none) = _
      rw [if_neg (fun m => out a m rfl), if_pos rfl]
theorem First.get (F : First K h T a us ns H) (ha : h.get? a = some (scrO us)) (hT : ∀ b ∈ T, h.get? b = some tabO) {b : Addr} {u : HO} (e : H b = some u) : h.get? b = some tabO ∨ h.get? b = some (scrO us) := by
  rcases F.only b u e with ⟨m, _⟩ | ⟨rfl, _⟩
  · exact .inl (hT b m)
  · exact .inr ha
/-- an object of another kind is not tracked -/
theorem First.free (F : First K h T a us ns H) (ha : h.get? a = some (scrO us)) (hT : ∀ b ∈ T, h.get? b = some tabO) {b : Addr} {o : Obj} (e : h.get? b = some o) (n1 : o ≠ tabO) (n2 : o ≠ scrO us) : H b = none := by
  cases q : H b with
  | none => rfl
  | some u =>
    rcases F.get ha hT q with z | z
    · exact absurd (Option.some.inj (e.symm.trans z)) n1
    · exact absurd (Option.some.inj (e.symm.trans z)) n2
theorem other_dict {o : Obj} {es : Array DictEntry} {n : Nat} (d : o.data = .dict es n) : o ≠ tabO ∧ o ≠ scrO us := ⟨(fun z => by rw [z] at d; cases d), (fun z => by rw [z] at d; cases d)⟩
theorem First.hok (F : First K h T a us ns H) (ha : h.get? a = some (scrO us)) (hT : ∀ b ∈ T, h.get? b = some tabO) (hi : IntsAre us ns) (hl : ns.length ≤ sizeLine) : HOk P w H h := fun b u e => by
  rcases F.only b u e with ⟨m, rfl⟩ | ⟨rfl, _, rfl⟩
  · exact hT b m
  · exact ⟨ha, by rw [List.length_map]; exact hl, us, _, vals_ints hi, ha⟩
/-- the written part stands in what is not tracked -/
theorem First.kin (F : First K h T a us ns H) (KX : K.In h) (nT : ∀ b ∈ T, K.lookup b = none) : K.In (hidT h H) := fun b o e => by
  refine hidT_get (KX b o e) ?_
  cases q : H b with
  | none => rfl
  | some u =>
    rcases F.only b u q with ⟨m, _⟩ | ⟨rfl, z, _⟩
    · rw [nT b m] at e; cases e
    · rw [z] at e; cases e
theorem First.nsOf (F : First K h T a us ns H) (ha : h.get? a = some (scrO us)) (hT : ∀ b ∈ T, h.get? b = some tabO) {b : Addr} {m : Str → Option Value} (g : h.Ns b m) : (hidT h H).Ns b m := by
  obtain ⟨o, es, n, e, d, r⟩ := g
  exact ⟨o, es, n, hidT_get e (F.free ha hT e (other_dict (us := us) d).1 (other_dict (us := us) d).2), d, r⟩
end
theorem law_callG {P : Program} {w : World} {K : PySem.W.Frag} {mg mb : Str → Option Value} {k : Nat} {fa a : Addr} {cs : List (Addr × Addr)} {fd : FuncData} {x : Str} {sp : Sp} {s : Shared} {us : List Value} {ns : List Int}
    (KX : K.In s.heap) (gl : s.heap.Ns mainGlobals mg) (bl : s.heap.Ns builtinsNs mb) (bb : ∀ x : Str, x ≠ "__name__" → mb x = bootBuiltins x) (lim : s.heap.NoLimit) (gens : s.gens = #[])
    (hTc : ∀ p ∈ cs, s.heap.get? p.2 = some tabO) (nTc : ∀ p ∈ cs, K.lookup p.2 = none) (C : ∀ p ∈ cs, PySem.W.CodeHd s.heap p.1 p.2)
    (bm : ∃ (m : Addr) (o : Obj), mg "__builtins__" = some (.ref m) ∧ m ≠ builtinsNs ∧ s.heap.get? m = some o ∧ o.cls = .type "module" ∧ o.dict = some builtinsNs ∧ o.data = .plain)
    (ha : s.heap.get? a = some (scrO us)) (hi : IntsAre us ns) (hl : ns.length ≤ sizeLine) (hr : Room k callerA) (hgd : callerA.guards = some [])
    (F : ∀ base : Heap, K.In base → base.Ns mainGlobals mg → (∀ p ∈ cs, TabB base mg p.1 p.2) → FnG P w K mg base k fa fd [x] sp) (bind : ∀ (s : Shared) (u : Value), BindsTo s fd ⟨[u], []⟩ [(x, u)])
    (hsp : ∀ H : Hp, (∀ p ∈ cs, H p.2 = some (.tbl #[])) → SqL K H a (ns.map V.int) → sp [.ref a] H (fun v _ => v = .bl true) E0) :
    codeAny (model P w) callerA (.call (.ref fa) ⟨[.ref a], []⟩) (fun r t => r = .ok (.ret (.bool true)) ∧ OldK s.heap t.heap ∧ t.os = s.os ∧ AllBare t.gens) s := by
  have inT : ∀ {p}, p ∈ cs → p.2 ∈ cs.map (·.2) := fun hp => List.mem_map_of_mem hp
  have hT : ∀ b ∈ cs.map (·.2), s.heap.get? b = some tabO := fun b hb => by
    obtain ⟨p, hp, rfl⟩ := List.mem_map.mp hb
    exact hTc p hp
  have nT : ∀ b ∈ cs.map (·.2), K.lookup b = none := fun b hb => by
    obtain ⟨p, hp, rfl⟩ := List.mem_map.mp hb
    exact nTc p hp
  obtain ⟨H, W⟩ := first_ex KX ha hT hi hl
  have ok : HOk P w H s.heap := W.hok ha hT hi hl
  have gl' := W.nsOf ha hT gl
  have notG : ∀ {b o}, s.heap.get? b = some o → (∀ es n, o.data ≠ .dict es n) → b ≠ mainGlobals := fun {b o} e n q => by
    obtain ⟨o', es, m, e', d, _⟩ := gl
    rw [q, e'] at e
    rw [Option.some.inj e] at d
    exact n _ _ d
  have M : L2.Mod K mg (hidT s.heap H) := by
    obtain ⟨ml, l1, l2⟩ := lim
    exact ⟨W.kin KX nT, gl', ⟨mb, W.nsOf ha hT bl, bb⟩, ⟨ml, W.nsOf ha hT l1, l2⟩⟩
  have TB : ∀ p ∈ cs, TabB (hidT s.heap H) mg p.1 p.2 := fun p hp => by
    obtain ⟨o, vs, f1, f2, f3, f4, f5, f6, f7, e, c1, c2, c3, rest⟩ := C p hp
    obtain ⟨m, om, b1, b2, b3, b4, b5, b6⟩ := bm
    have fo : H p.1 = none := W.free ha hT e (fun z => by rw [z] at c1; cases c1) (fun z => by rw [z] at c1; exact absurd (show Value.type "list" = Value.type "code" from c1) (by decide))
    have fm : H m = none := W.free ha hT b3 (fun z => by rw [z] at b4; cases b4) (fun z => by rw [z] at b4; exact absurd (show Value.type "list" = Value.type "module" from b4) (by decide))
    have mG : m ≠ mainGlobals := notG b3 fun es n z => by rw [b6] at z; cases z
    have mP : m ≠ p.2 := fun z => by
      rw [z, hTc p hp] at b3
      rw [← Option.some.inj b3] at b6
      cases b6
    have pG : p.2 ≠ mainGlobals := notG (hTc p hp) fun es n z => by cases z
    exact ⟨⟨o, vs, f1, f2, f3, f4, f5, f6, f7, hidT_get e fo, c1, c2, c3, rest⟩, ⟨m, om, b1, b2, mG, mP, hidT_get b3 fm, b4, b5, b6⟩, pG.symm⟩
  have env : Env0 P w K mg (hidT s.heap H) callerA [] s H :=
    { frames := rfl, mod := M, bs := fun b o e => of_hidT e, bsz := Nat.le_of_eq (hidT_size _ _), funs := trivial, frf := fun b hb => (by cases hb), hok := ok, bare := .of_eq gens }
  have run := (F _ M.kin M.glob TB).run callerA [] s H ⟨[.ref a], []⟩ [.ref a] [.ref a] (fun v _ => v = .bl true) hr hgd env (bind s (.ref a)) (.cons rfl .nil) (hsp H (fun p hp => W.tab _ (inT hp)) W.seq)
  refine codeAny_mono run fun r t end_ => ?_
  match r, end_ with
  | .ok (.ret u), ⟨v, H', os, bare, un, ok', rv, e⟩ =>
    subst e
    obtain rfl : u = Value.bool true := rv
    -- what is no table stays
    have stay : ∀ b o, b ∉ cs.map (·.2) → s.heap.get? b = some o → t.heap.get? b = some o := fun b o nb e => by
      cases q : H b with
      | none => exact un.keep b o e q (fun z => by cases z) (fun z => by cases z)
      | some u =>
        rcases W.only b u q with ⟨m, _⟩ | ⟨rfl, _, rfl⟩
        · exact absurd m nb
        · rw [ha] at e
          rw [← Option.some.inj e]
          exact (ok' b _ (un.frzs b _ _ q)).1
    have grow : ∀ b ∈ cs.map (·.2), ∃ more : Array Value, t.heap.get? b = some { cls := .none, data := .fields more } := fun b hb => by
      obtain ⟨more, z⟩ := un.tbls b #[] (W.tab b hb)
      exact ⟨_, ok' b _ z⟩
    refine ⟨rfl, ⟨fun b o e => ?_, fun b o e => ?_⟩, os, bare⟩ <;> by_cases m : b ∈ cs.map (·.2)
    · obtain ⟨p, hp, rfl⟩ := List.mem_map.mp m
      obtain ⟨more, z⟩ := grow _ m
      have eo : o = tabO := Option.some.inj (e.symm.trans (hTc p hp))
      subst eo
      refine .inr (.inl ⟨((C p hp).tab (hTc p hp)).isCodeTable, rfl, #[], more, rfl, ?_⟩)
      rw [Array.empty_append]
      exact z
    · exact .inl (stay b o m e)
    · obtain ⟨more, z⟩ := grow b m
      exact ⟨_, z⟩
    · exact ⟨o, stay b o m e⟩
  | .ok .next, z => exact False.elim z
  | .ok .brk, z => exact False.elim z
  | .ok .cont, z => exact False.elim z
  | .error e, z => exact False.elim z
theorem fnG_defC {P : Program} {w : World} {K : PySem.W.Frag} {mg : Str → Option Value} {base : Heap} {k : Nat} {x : Str} {ps N : List Str} {sp : Sp} {st : Stmt} {cc f : Addr} {fd : FuncData} (F : FnP K x st f fd) (hc : fd.code = .ref cc)
    (S : FnScope N ps (defScope st)) (len : ∀ vs H Q E, sp vs H Q E → vs.length = ps.length)
    (hbody : ∀ (f : Addr) (A : Around) (outer : List Env) (s : Shared) (H : Hp) (vs : List V) (Q : VK), Room k (A.deeper (envOfC x (defScope st) s.heap.objs.size f (.ref cc))) → A.guards = some [] → sp vs H Q E0 →
      ∃ t, PSs (cxOf CX0 P w K mg base N x (defScope st) f (.ref cc) A outer s H E0).nox (defBody st) t ∧ t { nx := fun _ H' => Q .non H', rt := Q } (L2.start N vs) H) : FnG P w K mg base (k + 1) f fd ps sp := by
  obtain ⟨oc, od, dV, kV, doc, pm, an, cdv, ct, osl, rfl, lk, hcd, _, _⟩ := F.ex
  obtain rfl : cdv = .ref cc := hc
  constructor
  · exact len
  · intro A outer s H args us vs Q hr hgd e0 hbt r hsp
    refine run_ofS lk hcd S hr e0 hbt r (len _ _ _ _ hsp) fun hr' => ?_
    obtain ⟨t, h, q⟩ := hbody f A outer s H vs Q hr' hgd hsp
    exact ⟨t, h.nox, q⟩
def LawAtG (l : PySem.W.OpenLaw) (w : World) (K : PySem.W.Frag) (k n : Nat) (x : Str) (mg : Str → Option Value) (fa : Addr) (h : Heap) : Prop :=
  ∃ (fd : FuncData) (cs : List (Addr × Addr)) (sp : Sp), (∀ p ∈ cs, h.get? p.2 = some { cls := .none, data := .fields #[] }) ∧ (∀ p ∈ cs, K.lookup p.2 = none) ∧ (∀ p ∈ cs, PySem.W.CodeHd h p.1 p.2) ∧ (∀ (s : Shared) (u : Value), BindsTo s fd ⟨[u], []⟩ [(x, u)]) ∧
    (∀ (H : Hp) (a : Addr) (ns : List Int), ns.length ≤ n → (∀ p ∈ cs, H p.2 = some (.tbl #[])) → SqL K H a (ns.map V.int) → sp [.ref a] H (fun v _ => v = .bl true) E0) ∧
    ∀ base : Heap, K.In base → base.Ns mainGlobals mg → (∀ p ∈ cs, TabB base mg p.1 p.2) → FnG l.prog w K mg base k fa fd [x] sp
theorem walk_ofG {l : PySem.W.OpenLaw} {n k : Nat} {q : Program} {loose : List Str} {XP : (Str → Option Value) → Heap → Prop} {YP : World → Heap → Prop} {d : DefRec} {x : Str}
    (hn : l.most = some n) (hn2 : n ≤ sizeLine) (hdf : d.params.defaults = []) (hr : Room k callerA) (hgd : callerA.guards = some [])
    (F : ∀ (w : World) (mg : Str → Option Value) (fa : Addr) (h : Heap), YP w h → h.Ns mainGlobals mg → mg d.name = some (.ref fa) → ∃ K : PySem.W.Frag, K.In h ∧ LawAtG l w K k n x mg fa h) :
    PySem.W.WalkO q loose XP YP l.row.toRowW d [] (fun f vs => PySem.call f vs) := by
  refine Att.attach_callB hn hdf fun w s₀ s₁ mg mb fa o pm cd doc a vs ns G Y ho hd hcd hmg hobj hints hlen hbits hg => ?_
  obtain ⟨K, KX, fd, cs, sp, hT, nT, C, hb, hsp, hF⟩ := F w mg fa _ Y G.T.g hmg
  exact law_callG KX G.T.g G.T.b G.T.builtins G.T.nolimit hg hT nT C G.T.bmain hobj hints (Nat.le_trans hlen hn2) hr hgd hF hb (fun H hH hS => hsp H a ns hlen hH hS)
end LamX
end
section
set_option maxRecDepth 100000
set_option maxHeartbeats 4000000
namespace LamX
open PySem PySem.Spec PySem.Calls PyProof.Rows L2
/-- a law whose code object is not looked at -/
theorem fnG_def0 {P : Program} {w : World} {K : PySem.W.Frag} {mg : Str → Option Value} {base : Heap} {k : Nat} {x : Str} {ps N : List Str} {sp : Sp} {st : Stmt} {f : Addr} {fd : FuncData} (F : FnP K x st f fd)
    (S : FnScope N ps (defScope st)) (len : ∀ vs H Q E, sp vs H Q E → vs.length = ps.length)
    (hbody : ∀ (f : Addr) (cdv : Value) (A : Around) (outer : List Env) (s : Shared) (H : Hp) (vs : List V) (Q : VK), Room k (A.deeper (envOfC x (defScope st) s.heap.objs.size f cdv)) → A.guards = some [] → sp vs H Q E0 →
      ∃ t, PSs (cxOf CX0 P w K mg base N x (defScope st) f cdv A outer s H E0).nox (defBody st) t ∧ t { nx := fun _ H' => Q .non H', rt := Q } (L2.start N vs) H) : FnG P w K mg base (k + 1) f fd ps sp := by
  obtain ⟨oc, od, dV, kV, doc, pm, an, cdv, ct, osl, rfl, lk, hcd, _, _⟩ := F.ex
  constructor
  · exact len
  · intro A outer s H args us vs Q hr hgd e0 hbt r hsp
    refine run_ofS lk hcd S hr e0 hbt r (len _ _ _ _ hsp) fun hr' => ?_
    obtain ⟨t, h, q⟩ := hbody f cdv A outer s H vs Q hr' hgd hsp
    exact ⟨t, h.nox, q⟩
end LamX
end
section
set_option maxRecDepth 100000
set_option maxHeartbeats 4000000
namespace L2
open PySem PySem.Spec PyProof.Rows
/-! ### {(a, b): v for a in .. for b in ..}: two clauses, the keys tuples -/
/-- a dict comprehension of two clauses -/
abbrev dC2 (ke ve ta ia tb ib : Expr) (fa fb : List Expr) (sc : Scope) (ps : Pos) : Expr := .DictComp ke ve [⟨ta, ia, fa, 0⟩, ⟨tb, ib, fb, 0⟩] sc ps
abbrev tsL (fs : List Expr) (en : Env) : Sem Bool := forIn fs true fun c r =>
  if r = true then do let z ← isTrue c en (eval c en); pure (ForInStep.yield z)
  else pure (ForInStep.yield r)
section
variable {prog : Program} {w : World} {A : Around} {R : Result → Shared → Prop} {s : Shared} {ke ve ta ia tb ib : Expr} {fa fb : List Expr} {sc : Scope} {ps : Pos} {it acc : Value} {D : Addr} {en : Env}
theorem d2_turn0 : compTurn (dC2 ke ve ta ia tb ib fa fb sc ps) 0 it acc en = (do
    standAt ia.pos
    match ← pyNext it with
    | none => pure (.done .next)
    | some v =>
      letOwnedTupleGo ta it v; assign ta en v
      let mut z := true
      for c in fa do
        if z then z ← isTrue c en (eval c en)
      if z then
        let x ← eval ib en
        standAt ib.pos
        let x ← foldedSetIterable ib en x
        let _ ← runOwn (.compStart (dC2 ke ve ta ia tb ib fa fb sc ps) 1 (← holding [x] (pyIter x)) acc en) en
      again (.compLoop (dC2 ke ve ta ia tb ib fa fb sc ps) 0 it acc en)) := by rfl
theorem d2_turn1 : compTurn (dC2 ke ve ta ia tb ib fa fb sc ps) 1 it (.ref D) en = (do
    standAt ib.pos
    match ← pyNext it with
    | none => pure (.done .next)
    | some v =>
      letOwnedTupleGo tb it v; assign tb en v
      let mut z := true
      for c in fb do
        if z then z ← isTrue c en (eval c en)
      if z then
        (do
          let k1 ← eval ke en
          let v1 ← holding [k1] (eval ve en)
          standAt { ke.pos with endLine := ve.pos.endLine, endCol := ve.pos.endCol }
          holding [k1, v1] (dictSet D k1 v1))
      again (.compLoop (dC2 ke ve ta ia tb ib fa fb sc ps) 1 it (.ref D) en)) := by rfl
abbrev nB (prog : Program) (w : World) (A : Around) (en : Env) (R : Result → Shared → Prop) : Value → Shared → Prop := notedBy (model prog w) A en fun e s' => R (.error e) s'
theorem d2_out (hs : ∀ x, foldedSetIterable ib en x = pure x) (I : Nat → Shared → Prop)
    (turn : ∀ n s, I n s → wpAny (model prog w) A (pyNext it) (fun r s1 => match r with
      | none => R (.ok .next) s1
      | some v => wpAny (model prog w) A (letOwnedTupleGo ta it v) (fun _ s2 =>
          wpAny (model prog w) A (assign ta en v) (fun _ s3 => wpAny (model prog w) A (tsL fa en) (fun z s4 =>
            if z = true then wpAny (model prog w) A (eval ib en) (fun x s5 =>
              wpAny (model prog w) A (pyIter x) (fun it1 s6 => codeAny (model prog w) A (.compStart (dC2 ke ve ta ia tb ib fa fb sc ps) 1 it1 acc en) (fun r s' => match r with
                | .ok _ => ∃ m, m < n ∧ I m s'
                | .error _ => False) s6) (nB prog w A en R) s5) (nB prog w A en R) s4
            else ∃ m, m < n ∧ I m s4) (nB prog w A en R) s3) (nB prog w A en R) s2) (nB prog w A en R) s1) (nB prog w A en R) s)
    (n : Nat) (h : I n s) : codeAny (model prog w) A (.compLoop (dC2 ke ve ta ia tb ib fa fb sc ps) 0 it acc en) R s := by
  refine codeAny_loop rfl I (fun n s hn => ?_) n h
  show wpAny _ A ((compTurn (dC2 ke ve ta ia tb ib fa fb sc ps) 0 it acc en).onRaise fun x => do noteFrame x en; theTreesLotGoes x) _ _ s
  refine wpAny_noted ?_
  rw [d2_turn0]
  refine wpAny_bind (wpAny_standAt (wpAny_bind (wpAny_mono (turn n s hn) (fun r s1 g1 => ?_) fun _ _ q => q)))
  rcases r with _ | v
  · exact wpAny_pure g1
  · refine wpAny_bind (wpAny_mono g1 (fun _ s2 g2 => ?_) fun _ _ q => q)
    refine wpAny_bind (wpAny_mono g2 (fun _ s3 g3 => wpAny_bind (wpAny_mono g3 (fun z s4 g4 => ?_) fun _ _ q => q)) fun _ _ q => q)
    rcases z with _ | _
    · exact wpAny_pure ⟨rfl, g4⟩
    · refine wpAny_bind (wpAny_mono g4 (fun x s5 g5 => ?_) fun _ _ q => q)
      refine wpAny_bind (wpAny_standAt (wpAny_bind (wpAny_of_eq (hs x) (wpAny_bind (wpAny_holding (wpAny_mono g5 (fun it1 s6 g6 => ?_) fun _ _ q => q))))))
      refine wpAny_bind (wpAny_runOwn ?_)
      rw [Around.mark_none]
      refine codeAny_mono g6 fun r s' gr => ?_
      rcases r with e | f
      · first
          | exact gr.elim
          | exact wpAny_pure ⟨rfl, gr⟩
          | exact wpAny_bind (wpAny_pure (wpAny_pure ⟨rfl, gr⟩))
      · first
          | exact gr.elim
          | exact wpAny_pure ⟨rfl, gr⟩
          | exact wpAny_bind (wpAny_pure (wpAny_pure ⟨rfl, gr⟩))
theorem d2_in (I : Nat → Shared → Prop)
    (turn : ∀ n s, I n s → wpAny (model prog w) A (pyNext it) (fun r s1 => match r with
      | none => R (.ok .next) s1
      | some v => wpAny (model prog w) A (letOwnedTupleGo tb it v) (fun _ s2 =>
          wpAny (model prog w) A (assign tb en v) (fun _ s3 => wpAny (model prog w) A (tsL fb en) (fun z s4 =>
            if z = true then wpAny (model prog w) A (eval ke en) (fun k1 s5 =>
              wpAny (model prog w) A (eval ve en) (fun v1 s6 => wpAny (model prog w) A (dictSet D k1 v1) (fun _ s7 => ∃ m, m < n ∧ I m s7) (nB prog w A en R) s6) (nB prog w A en R) s5) (nB prog w A en R) s4
            else ∃ m, m < n ∧ I m s4) (nB prog w A en R) s3) (nB prog w A en R) s2) (nB prog w A en R) s1) (nB prog w A en R) s)
    (n : Nat) (h : I n s) : codeAny (model prog w) A (.compLoop (dC2 ke ve ta ia tb ib fa fb sc ps) 1 it (.ref D) en) R s := by
  refine codeAny_loop rfl I (fun n s hn => ?_) n h
  show wpAny _ A ((compTurn (dC2 ke ve ta ia tb ib fa fb sc ps) 1 it (.ref D) en).onRaise fun x => do noteFrame x en; theTreesLotGoes x) _ _ s
  refine wpAny_noted ?_
  rw [d2_turn1]
  refine wpAny_bind (wpAny_standAt (wpAny_bind (wpAny_mono (turn n s hn) (fun r s1 g1 => ?_) fun _ _ q => q)))
  rcases r with _ | v
  · exact wpAny_pure g1
  · refine wpAny_bind (wpAny_mono g1 (fun _ s2 g2 => ?_) fun _ _ q => q)
    refine wpAny_bind (wpAny_mono g2 (fun _ s3 g3 => wpAny_bind (wpAny_mono g3 (fun z s4 g4 => ?_) fun _ _ q => q)) fun _ _ q => q)
    rcases z with _ | _
    · exact wpAny_pure ⟨rfl, g4⟩
    · exact wpAny_bind (wpAny_bind (wpAny_mono g4 (fun k1 s5 g5 => wpAny_bind (wpAny_holding (wpAny_mono g5 (fun v1 s6 g6 =>
        wpAny_bind (wpAny_standAt (wpAny_holding (wpAny_mono g6 (fun _ s7 g7 => wpAny_pure ⟨rfl, g7⟩) fun _ _ q => q)))) fun _ _ q => q))) fun _ _ q => q))
theorem d2_start1 (h0 : codeAny (model prog w) A (.compLoop (dC2 ke ve ta ia tb ib fa fb sc ps) 1 it acc en) R s)
    (h : wpAny (model prog w) A (pyIter it) (fun it' s' => codeAny (model prog w) A (.compLoop (dC2 ke ve ta ia tb ib fa fb sc ps) 1 it' acc en) R s') (nB prog w A en R) s) :
    codeAny (model prog w) A (.compStart (dC2 ke ve ta ia tb ib fa fb sc ps) 1 it acc en) R s := by
  refine codeAny_of_tree ?_
  show wpAny _ _ ((compStart (dC2 ke ve ta ia tb ib fa fb sc ps) 1 it acc en).onRaise fun x => do noteFrame x en; standAt theWindowsPlace) _ _ s
  refine wpAny_notedAt ?_
  unfold compStart
  show wpAny _ _ (ask >>= _) _ _ s
  refine wpAny_bind (wpAny_askSetting (wpAny_ite ?_))
  split
  · first
      | exact wpAny_pure ⟨rfl, h0⟩
      | exact wpAny_bind (wpAny_pure (wpAny_pure ⟨rfl, h0⟩))
  · first
      | exact wpAny_bind (wpAny_rule (wpAny_bind (wpAny_standAt (wpAny_bind (wpAny_mono h (fun _ _ q => wpAny_pure ⟨rfl, q⟩) fun _ _ q => q)))))
      | (refine wpAny_bind (wpAny_rule ?_)
         show wpAny _ _ (standAt ib.pos >>= _) _ _ s
         exact wpAny_bind (wpAny_standAt (wpAny_bind (wpAny_mono h (fun _ _ q => wpAny_pure ⟨rfl, q⟩) fun _ _ q => q))))
end
end L2
end
section
set_option maxRecDepth 100000
set_option maxHeartbeats 4000000
namespace L2
open PySem PySem.Spec PyProof.Rows
/-- d[b] = v by a comprehension, b a tuple that is tracked -/
theorem d2_store {X : Cx} {pins : List (Addr × Obj)} {σ : St} {H : Hp} {s : Shared} {E : Value → Shared → Prop} {D b : Addr} {kvs : List (List Key × V)} {k : List Key} {v : V} {r : Value} {Q : Unit → Shared → Prop} (hu : X.A.units < cLine) (I : Inv X pins σ H s)
    (hD : H D = some (.dT kvs)) (hb : H b = some (.tup (k.map kV))) (hz : kvs.length < sizeLine) (rv : RelV v r) (h : ∀ s', Inv X pins σ (upd H D (.dT (putK kvs k v))) s' → Q () s') : wpAny (model X.prog X.w) X.A (dictSet D (.ref b) r) Q E s := by
  obtain ⟨z, nd, xs, rel, dd⟩ := dt_of I.hok hD
  have zx : xs.length ≤ sizeLine := by rw [← Paired.length rel]; exact z
  have zk : (putK kvs k v).length ≤ sizeLine := by have := length_putK kvs k v; omega
  refine wpAny_dictSet_heap (hsz := zx) (show (tupleKind (mixKind X.prog X.w)).room X.A from hu) (key_of I.hok hb) dd fun h' dd' sb => h _ ?_
  obtain ⟨q, es, ep, e1, e2, e3, e4, _, e5⟩ := dd'
  refine d_write I (by rw [hD]; exact True.intro) sb ⟨q, e1⟩ ⟨zk, nd, _, (rel.put k hb rv).keeps fun c ys ec => ?_, q, es, ep, e1, e2, e3, e4, e5⟩
  rw [upd_ne (ne_of ec hD fun z => nomatch z)]
  exact ec
/-- {key: v for tg in .. for tg1 in ..}, the keys tuples. vs: the block's names; vs1: those of the second target -/
def tDc2 (wi : TI) (g : TG) (tt : TT) (wi1 : TI) (g1 : TG) (tt1 : TT) (tk tv : TE) (vs vs1 : List Nat) : TE := fun σ H Q => wi σ H fun J H1 => ∀ D, H1 D = none → ∃ W : Nat → Nat → Hp → Prop,
  (∃ m, W 0 m (upd H1 D (.dT []))) ∧ ∀ i m H, W i m H → (J.stop i H ∧ Q (.ref D) H) ∨ (J.go i H ∧ ∃ Nx : Hp → Prop,
    (∀ H', Nx H' → ∃ m', m' < m ∧ W (i + 1) m' H') ∧ ∀ x H', J.yld i H x H' → g x (wipe σ vs) H' fun σ2 H2 => wipe σ2 vs = wipe σ vs ∧ tt σ2 H2 fun b H3 =>
      if b = true then wi1 σ2 H3 fun J1 H4 => ∃ W1 : Nat → Nat → Hp → Prop, (∃ m, W1 0 m H4) ∧ ∀ j k H, W1 j k H →
        (J1.stop j H ∧ Nx H) ∨ (J1.go j H ∧ ∃ Nx1 : Hp → Prop, (∀ H', Nx1 H' → ∃ k', k' < k ∧ W1 (j + 1) k' H') ∧ ∀ x H', J1.yld j H x H' → g1 x (wipe σ2 vs1) H' fun σ3 H5 => wipe σ3 vs1 = wipe σ2 vs1 ∧ tt1 σ3 H5 fun b H6 =>
          if b = true then tk σ3 H6 fun y H7 => tv σ3 H7 fun z H8 => ∃ a kvs k, y = .ref a ∧ H8 a = some (.tup (k.map kV)) ∧ H8 D = some (.dT kvs) ∧ kvs.length < sizeLine ∧ Nx1 (upd H8 D (.dT (putK kvs k z)))
          else Nx1 H6)
      else Nx H3)
section
variable {X : Cx}
abbrev inB (X : Cx) (sc : Scope) (F : Cx → Prop) : Prop := ∀ (s : Shared) (H : Hp) (C : Addr) (cl : List (Str × Addr)) (fp : List Addr), F (X.blk s H sc (compEnvC sc cl C X.env) fp)
theorem d2_core {pins : List (Addr × Obj)} {s : Shared} {σ : St} {H : Hp} {Q : VK} {ke ve ta ia tb ib : Expr} {fa fb : List Expr} {sc : Scope} {own : List (Str × Nat)} {vs1 : List Nat} {ps ps' : Pos} {wi wi1 : TI} {g g1 : TG} {tt tt1 : TT} {tk tv : TE} {use : Option (Value → Sem Unit)} {Qf : Value → Shared → Prop}
    (hc : X.calm = true) (hu : X.A.units < cLine) (hN : X.N.Nodup) (I : Inv X pins σ H s) (hi : PI X ta ia wi) (ok : BlkOk X.N X.env.scope sc own) (hv : ∀ i ∈ vs1, i ∈ own.map (·.2))
    (hg : inB X sc fun Y => PG Y ta g) (ht : inB X sc fun Y => PTs Y fa tt) (hk : inB X sc fun Y => PE Y ke tk) (he : inB X sc fun Y => PE Y ve tv) (hs : ∀ x, foldedSetIterable ia X.env x = pure x)
    (hi1 : inB X sc fun Y => PI Y tb ib wi1) (hg1 : inB X sc fun Y => PG Y tb g1) (ht1 : inB X sc fun Y => PTs Y fb tt1) (hs1 : ∀ env x, foldedSetIterable ib env x = pure x)
    (h : tDc2 wi g tt wi1 g1 tt1 tk tv (own.map (·.2)) vs1 σ H Q)
    (hR : ∀ D C s' m H', Inv X pins σ H' s' → Q (.ref D) H' → s'.heap.Ns C m → FpOk X pins H' C → compPost (model X.prog X.w) X.A X.xe use Qf (.ref D) C (.ok .next) s') :
    wpAny (model X.prog X.w) X.A (comprehension (dC2 ke ve ta ia tb ib fa fb sc ps) sc X.env ps' newDict false (eval ia X.env) use) Qf X.xe s := by
  have free : ∀ y ∈ sc.names, y.2 = .free → ∃ c, X.env.cells.lookup y.1 = some c := fun y hy e => (ok.free y hy e).elim (fun z => I.ok.has _ (.inl z)) fun z => I.ok.has _ (.inr z)
  refine wpAny_comprehension_free (use := use) rfl hs (closure_ok free) ok.kind (fun y hy e => by rw [ok.uniq y hy, e]) (thn (hi.run pins s σ H _ I h) fun xv s1 hx => thn hx fun itv s2 h2 => ?_)
  obtain ⟨it, fp, tn, J, H2, e, I2, T, st2, f2, q⟩ := h2
  subst e
  refine wpAny_newObj_type (newEnv_comp ?_)
  generalize hD : s2.heap.objs.size = D
  obtain ⟨W, ⟨m0, w0⟩, turn⟩ := q D (I2.hok.fresh (Nat.le_of_eq hD))
  generalize hs3 : ({ s2 with heap := s2.heap.push { cls := .type "dict", data := .dict #[] } } : Shared) = s3
  have h3 : s3.heap = s2.heap.push { cls := .type "dict", data := .dict #[] } := by rw [← hs3]
  have I3 : Inv X pins σ (upd H2 D (.dT [])) s3 := by
    rw [← hs3]
    refine I2.laid (t' := s2.toks) (fun b o e => Heap.get?_push_of_some _ e) (Nat.le_of_eq hD) ?_
    rw [← hD]
    exact dt_empty s2.heap I2.big
  have f3 : ∀ b ∈ fp, FpOk X pins (upd H2 D (.dT [])) b ∧ b < s3.heap.objs.size := fun b hb => by
    obtain ⟨o, eo, _⟩ := T.obj _ _ st2 b hb
    have lt := Heap.lt_size eo
    refine ⟨⟨?_, (f2 b hb).2⟩, by rw [h3, Heap.size_push]; exact Nat.lt_succ_of_lt lt⟩
    rw [upd_ne (by rw [← hD]; exact Nat.ne_of_lt lt)]
    exact (f2 b hb).1
  have st3 : tn 0 s3.heap := T.keep _ _ _ st2 fun b _ o e => by rw [h3]; exact Heap.get?_push_of_some _ e
  have I4 := block_start I3 ok hN f3
  generalize hcl : cellsFrom (s3.heap.objs.size + 1) sc.names (cloFrom X.env.cells sc.names []) = cl at I4
  have pg := hg s3 (upd H2 D (.dT [])) s3.heap.objs.size cl fp
  have pt := ht s3 (upd H2 D (.dT [])) s3.heap.objs.size cl fp
  have pk := hk s3 (upd H2 D (.dT [])) s3.heap.objs.size cl fp
  have pe := he s3 (upd H2 D (.dT [])) s3.heap.objs.size cl fp
  have pi1 := hi1 s3 (upd H2 D (.dT [])) s3.heap.objs.size cl fp
  have pg1 := hg1 s3 (upd H2 D (.dT [])) s3.heap.objs.size cl fp
  have pt1 := ht1 s3 (upd H2 D (.dT [])) s3.heap.objs.size cl fp
  have nfp : ∀ b ∈ fp, (upd H2 D (.dT [])) b = none := fun b hb => (f3 b hb).1.1
  have goal0 : codeAny (model X.prog X.w) X.A (.compStart (dC2 ke ve ta ia tb ib fa fb sc ps) 0 (.ref it) (.ref D) (compEnvC sc cl s3.heap.objs.size X.env)) (compPost (model X.prog X.w) X.A X.xe use Qf (.ref D) s3.heap.objs.size)
      { s3 with heap := pushCells (s3.heap.push { cls := .type "dict", data := .dict #[] }) sc.names } := by
    generalize hce : compEnvC sc cl s3.heap.objs.size X.env = ce at I4 pg pt pk pe pi1 pg1 pt1 ⊢
    have cL : ce.locals = s3.heap.objs.size := by subst hce; rfl
    generalize hH3 : upd H2 D (.dT []) = H3 at I3 I4 pg pt pk pe pi1 pg1 pt1 w0 nfp f3
    generalize hs4 : ({ s3 with heap := pushCells (s3.heap.push { cls := .type "dict", data := .dict #[] }) sc.names } : Shared) = s4 at I4 ⊢
    have st4 : tn 0 s4.heap := T.keep _ _ _ st3 fun b _ o e => by rw [← hs4]; exact pushCells_keeps _ _ _ _ (Heap.get?_push_of_some _ e)
    have keepF : ∀ {σ' : St} {H' : Hp} {s' : Shared}, Inv (X.blk s3 H3 sc ce fp) [] σ' H' s' → (∀ b ∈ fp, H' b = none) → ∀ b ∈ fp, FpOk (X.blk s3 H3 sc ce fp) [] H' b := fun {σ' H' s'} I' hn b hb =>
      ⟨hn b hb, (I'.ok.exf b hb).1, I'.ok.exfs b hb, .inl hb, fun x c e => (I'.ok.exf b hb).2 x c e, fun p hp => by cases (show p ∈ ([] : List (Addr × Obj)) from hp)⟩
    -- what stands at the head of each turn
    let Hd : Nat → Shared → Prop := fun n s' => ∃ i H', Inv (X.blk s3 H3 sc ce fp) [] (wipe σ (own.map (·.2))) H' s' ∧ tn i s'.heap ∧ (∀ b ∈ fp, H' b = none) ∧ W i n H'
    refine codeAny_compStart_dict ?_ (T.self X.A 0 _ _ _ st4 ?_)
    all_goals
      refine d2_out (hs1 ce) Hd ?_ m0 ⟨0, H3, I4, st4, nfp, w0⟩
      rintro n s5 ⟨i, H5, I5, st5, n5, w5⟩
      rcases turn i n H5 w5 with ⟨stop, qq⟩ | ⟨go, Nx, hNx, step⟩
      · refine thnF (T.done (X.blk s3 H3 sc ce fp) rfl rfl rfl hc i [] s5 _ H5 (fun _ _ => False) I5 (keepF I5 n5) st5 stop) fun r s6 ⟨er, I6⟩ => ?_
        subst er
        have I7 : Inv X pins σ H5 s6 := I3.call' (ch := fp) I6.os I6.base I6.hok I6.bare fun b hb =>
          let z := (f3 b hb).1.2
          ⟨z.2.2.1, z.1, z.2.2.2.1, z.2.2.2.2⟩
        have nC : H5 s3.heap.objs.size = none := cL ▸ (show H5 ce.locals = none from I6.free)
        obtain ⟨m, hn, _⟩ := I6.loc
        exact hR D s3.heap.objs.size s6 m H5 I7 qq (cL ▸ (show s6.heap.Ns ce.locals m from hn)) (I3.fpOk (Nat.le_refl _) nC)
      · refine thnF (T.item (X.blk s3 H3 sc ce fp) rfl rfl rfl hc i [] s5 _ H5 (fun _ _ => False) I5 (keepF I5 n5) st5 go) fun r s6 ⟨u, er, h6⟩ => ?_
        subst er
        refine thnF h6 fun _ s7 ⟨x, H7, I7, r7, y7, st7, n7⟩ => ?_
        have P7 := I7.pinned (keepF I7 n7) (T.obj _ _ st7)
        refine thnF (pg.run _ s7 _ H7 x u _ P7 r7 (step x H7 y7)) fun _ s8 ⟨σ8, H8, I8, hw8, q8⟩ => ?_
        refine thnF (pt.run _ s8 σ8 H8 _ I8 q8) fun b s9 ⟨H9, I9, q9⟩ => ?_
        have back : ∀ {σ9 : St} {s' : Shared} {H' : Hp}, Inv (X.blk s3 H3 sc ce fp) ([] ++ pinsAt fp s7.heap) σ9 H' s' → (wipe σ (own.map (·.2))).length = σ9.length →
            (∀ (j : Nat) v, (wipe σ (own.map (·.2)))[j]? = some (some v) → σ9[j]? = some (some v)) → Nx H' → ∃ m, m < n ∧ Hd m s' := fun {σ9 s' H'} I' e1 e2 nx => by
          obtain ⟨m', lt, w'⟩ := hNx H' nx
          have stays : ∀ b ∈ fp, ∀ o, s7.heap.get? b = some o → s'.heap.get? b = some o ∧ H' b = none := fun b hb o e => by
            have z := I'.pin (b, o) (List.mem_append_right _ (List.mem_append_right _ (mem_pinsAt hb e)))
            exact ⟨z.1, z.2.1⟩
          refine ⟨m', lt, i + 1, H', (I'.unpinned (pins := [])).weak e1 e2, T.keep _ _ _ st7 fun b hb o e => (stays b hb o e).1, fun b hb => ?_, w'⟩
          obtain ⟨o, e, _⟩ := T.obj _ _ st7 b hb
          exact (stays b hb o e).2
        have e8 : (wipe σ (own.map (·.2))).length = σ8.length := by rw [← hw8, wipe_length]
        have k8 : ∀ (j : Nat) v, (wipe σ (own.map (·.2)))[j]? = some (some v) → σ8[j]? = some (some v) := fun j v e => (wipe_some (hw8.symm ▸ e)).1
        have k9 : ∀ (j : Nat) v, (wipe σ (own.map (·.2)))[j]? = some (some v) → (wipe σ8 vs1)[j]? = some (some v) := fun j v e => by
          obtain ⟨z1, z2⟩ := wipe_some (hw8.symm ▸ e)
          exact (wipe_out fun z => z2 (hv j z)).trans z1
        rcases b with _ | _
        · exact back I9 e8 k8 q9
        · refine thnF (pi1.run _ s9 σ8 H9 _ I9 q9) fun xv s10 hx => thnF hx fun itv s11 h11 => ?_
          obtain ⟨it1, fp1, tn1, J1, H11, e1, I11, T1, st11, f11, W1, ⟨m1, w1⟩, turn1⟩ := h11
          subst e1
          have keepG : ∀ {H' : Hp}, (∀ b ∈ fp1, H' b = none) → ∀ b ∈ fp1, FpOk (X.blk s3 H3 sc ce fp) ([] ++ pinsAt fp s7.heap) H' b := fun hn b hb => ⟨hn b hb, (f11 b hb).2⟩
          let Hd1 : Nat → Shared → Prop := fun k s' => ∃ j H', Inv (X.blk s3 H3 sc ce fp) ([] ++ pinsAt fp s7.heap) (wipe σ8 vs1) H' s' ∧ tn1 j s'.heap ∧ (∀ b ∈ fp1, H' b = none) ∧ W1 j k H'
          refine d2_start1 ?_ (T1.self X.A 0 _ _ _ st11 ?_)
          all_goals
            refine d2_in Hd1 ?_ m1 ⟨0, H11, I11.weak (wipe_length _ _) (fun j v e => (wipe_some e).1), st11, fun b hb => (f11 b hb).1, w1⟩
            rintro k s12 ⟨j, H12, I12, st12, n12, w12⟩
            rcases turn1 j k H12 w12 with ⟨stop1, nx1⟩ | ⟨go1, Nx1, hNx1, step1⟩
            · refine thnF (T1.done (X.blk s3 H3 sc ce fp) rfl rfl rfl hc j _ s12 (wipe σ8 vs1) H12 (fun _ _ => False) I12 (keepG n12) st12 stop1) fun r s13 ⟨er, I13⟩ => ?_
              subst er
              exact back I13 (e8.trans (wipe_length σ8 vs1).symm) k9 nx1
            · refine thnF (T1.item (X.blk s3 H3 sc ce fp) rfl rfl rfl hc j _ s12 (wipe σ8 vs1) H12 (fun _ _ => False) I12 (keepG n12) st12 go1) fun r s13 ⟨u1, er, h13⟩ => ?_
              subst er
              refine thnF h13 fun _ s14 ⟨x1, H14, I14, r14, y14, st14, n14⟩ => ?_
              have P14 := I14.pinned (keepG n14) (T1.obj _ _ st14)
              refine thnF (pg1.run _ s14 (wipe σ8 vs1) H14 x1 u1 _ P14 r14 (step1 x1 H14 y14)) fun _ s15 ⟨σ15, H15, I15, hw15, q15⟩ => ?_
              refine thnF (pt1.run _ s15 σ15 H15 _ I15 q15) fun b1 s16 ⟨H16, I16, q16⟩ => ?_
              have back1 : ∀ {s' : Shared} {H' : Hp}, Inv (X.blk s3 H3 sc ce fp) (([] ++ pinsAt fp s7.heap) ++ pinsAt fp1 s14.heap) σ15 H' s' → Nx1 H' → ∃ m, m < k ∧ Hd1 m s' := fun {s' H'} I' nx => by
                obtain ⟨m', lt, w'⟩ := hNx1 H' nx
                have stays : ∀ b ∈ fp1, ∀ o, s14.heap.get? b = some o → s'.heap.get? b = some o ∧ H' b = none := fun b hb o e => by
                  have z := I'.pin (b, o) (List.mem_append_right _ (List.mem_append_right _ (mem_pinsAt hb e)))
                  exact ⟨z.1, z.2.1⟩
                refine ⟨m', lt, j + 1, H', I'.unpinned.weak (by rw [← hw15, wipe_length]) (fun j v e => (wipe_some (hw15.symm ▸ e)).1), T1.keep _ _ _ st14 fun b hb o e => (stays b hb o e).1, fun b hb => ?_, w'⟩
                obtain ⟨o, e, _⟩ := T1.obj _ _ st14 b hb
                exact (stays b hb o e).2
              rcases b1 with _ | _
              · exact back1 I16 q16
              · refine thnF (pk.run _ s16 σ15 H16 _ I16 q16) fun y s17 ⟨yk, H17, I17, r17, q17⟩ => ?_
                refine thnF (pe.run _ s17 σ15 H17 _ I17 q17) fun z s18 ⟨yv, H18, I18, r18, a, kvs, kk, ey, ha, hDD, hz, nx⟩ => ?_
                subst ey
                obtain rfl : y = Value.ref a := r17
                exact d2_store (X := X.blk s3 H3 sc ce fp) hu I18 hDD ha hz r18 fun s19 I19 => back1 I19 nx
  subst hcl
  exact goal0
/-- as a value -/
theorem pe_dc2 {ke ve ta ia tb ib : Expr} {fa fb : List Expr} {sc : Scope} {own : List (Str × Nat)} {vs1 : List Nat} {ps : Pos} {wi wi1 : TI} {g g1 : TG} {tt tt1 : TT} {tk tv : TE}
    (hc : X.calm = true) (hu : X.A.units < cLine) (hN : X.N.Nodup) (hi : PI X ta ia wi) (ok : BlkOk X.N X.env.scope sc own) (hv : ∀ i ∈ vs1, i ∈ own.map (·.2))
    (hg : inB X sc fun Y => PG Y ta g) (ht : inB X sc fun Y => PTs Y fa tt) (hi1 : inB X sc fun Y => PI Y tb ib wi1) (hg1 : inB X sc fun Y => PG Y tb g1) (ht1 : inB X sc fun Y => PTs Y fb tt1)
    (hk : inB X sc fun Y => PE Y ke tk) (he : inB X sc fun Y => PE Y ve tv) (hs : ∀ x, foldedSetIterable ia X.env x = pure x := by intro _; rfl) (hs1 : ∀ env x, foldedSetIterable ib env x = pure x := by intro _ _; rfl) :
    PE X (.DictComp ke ve [⟨ta, ia, fa, 0⟩, ⟨tb, ib, fb, 0⟩] sc ps) (tDc2 wi g tt wi1 g1 tt1 tk tv (own.map (·.2)) vs1) := by
  refine ⟨fun pins s σ H Q I h => ?_⟩
  rw [arm_eval_DictComp]
  refine d2_core hc hu hN I hi ok hv hg ht hk he hs hi1 hg1 ht1 hs1 h fun D C s' m H' I' q hn f => ⟨m, hn, fun h'' sb => ?_⟩
  obtain ⟨a0, a1, a2, a3, a4, a5⟩ := f
  exact ⟨.ref D, H', I'.turned (t' := s'.toks) (fun b o hb e => (sb.2 b hb).trans e) a0 a1 a3 a4 a5, rfl, q⟩
end
end L2
end
section
set_option maxRecDepth 100000
set_option maxHeartbeats 4000000
namespace L2
open PySem PySem.Spec PyProof.Rows
/-! ### loops by any step over a range -/
theorem rng_W {lo : Int} {n L : Nat} {H0 : Hp} {Qd : Hp → Prop} {B : V → (Hp → Prop) → Hp → Prop} (hn : n = L) (Pv : Nat → Hp → Prop) (h0 : Pv 0 H0) (hs : ∀ i H, i < L → Pv i H → B (.int (lo + i)) (Pv (i + 1)) H) (hd : ∀ H, Pv L H → Qd H) :
    ∃ W : Nat → Nat → Hp → Prop, (∃ m, W 0 m H0) ∧ ∀ i m H, W i m H → ((Itr lo n).stop i H ∧ Qd H) ∨ ((Itr lo n).go i H ∧ ∃ Nx : Hp → Prop, (∀ H', Nx H' → ∃ m', m' < m ∧ W (i + 1) m' H') ∧ ∀ x H', (Itr lo n).yld i H x H' → B x Nx H') := by
  subst hn
  refine ⟨fun i m H => m = n - i ∧ i ≤ n ∧ Pv i H, ⟨n, by simp, Nat.zero_le _, h0⟩, ?_⟩
  rintro i m H ⟨rfl, hi, p⟩
  by_cases lt : i < n
  · refine .inr ⟨lt, Pv (i + 1), fun H' p' => ⟨n - (i + 1), by omega, rfl, lt, p'⟩, fun x H' y => ?_⟩
    obtain ⟨e1, e2⟩ := y
    subst e1 e2
    exact hs i _ lt p
  · obtain rfl : i = n := by omega
    exact .inl ⟨Nat.le_refl _, hd H p⟩
/-! ### a list of rows of ints -/
def rowV (n : Nat) (f : Nat → Int) : List V := (List.range n).map fun b => V.int (f b)
theorem rowV_len {n : Nat} {f : Nat → Int} : (rowV n f).length = n := by unfold rowV; rw [List.length_map, List.length_range]
theorem rowV_get {n : Nat} {f : Nat → Int} {b : Nat} (h : b < n) : (rowV n f)[b]? = some (.int (f b)) := by
  unfold rowV
  rw [List.getElem?_map, List.getElem?_range h]
  rfl
theorem rowV_congr {n : Nat} {f g : Nat → Int} (h : ∀ b, b < n → f b = g b) : rowV n f = rowV n g := by
  unfold rowV
  refine List.map_congr_left fun b hb => ?_
  rw [h b (List.mem_range.mp hb)]
theorem rowV_set {n : Nat} {f : Nat → Int} {b : Nat} {v : Int} : (rowV n f).set b (.int v) = rowV n fun y => if y = b then v else f y := by
  refine List.ext_getElem? fun i => ?_
  rw [List.getElem?_set, rowV_len]
  by_cases h : i < n
  · rw [rowV_get h, rowV_get h]
    by_cases e : b = i
    · subst e
      rw [if_pos rfl, if_pos h, if_pos rfl]
    · rw [if_neg e, if_neg fun z => e z.symm]
  · rw [List.getElem?_eq_none (by rw [rowV_len]; omega), List.getElem?_eq_none (by rw [rowV_len]; omega)]
    split
    · exact if_neg (by omega)
    · rfl
theorem rowV_rep {n : Nat} {z : Int} : (List.replicate n [V.int z]).flatten = rowV n fun _ => z := by
  induction n with
  | zero => rfl
  | succ n ih =>
    rw [List.replicate_succ', List.flatten_append, ih]
    unfold rowV
    rw [List.range_succ, List.map_append]
    rfl
theorem rowV_ints {n : Nat} {f : Nat → Int} : rowV n f = ((List.range n).map f).map V.int := by unfold rowV; rw [List.map_map]; rfl
theorem ix_nat {n j : Nat} (hj : j < n) : ixN n (j : Int) = some j := by
  unfold ixN
  rw [if_pos (by omega), if_pos (by omega), Int.toNat_natCast]
def RowsAt (H : Hp) (g : Addr) (M : Nat → Nat → Int) (n : Nat) : Prop := ∃ rs : List Addr, H g = some (.lst (rs.map V.ref)) ∧ rs.length = n ∧ ∀ a r, rs[a]? = some r → H r = some (.lst (rowV n (M a)))
/-- the rows stand apart, they may be written -/
def GridAt (H0 H : Hp) (g : Addr) (M : Nat → Nat → Int) (n : Nat) : Prop := ∃ rs : List Addr, H g = some (.lst (rs.map V.ref)) ∧ rs.length = n ∧ rs.Nodup ∧ (g ∉ rs ∧ ∀ r ∈ rs, H0 r = none) ∧ ∀ a r, rs[a]? = some r → H r = some (.lst (rowV n (M a)))
theorem GridAt.rows {H0 H : Hp} {g : Addr} {M : Nat → Nat → Int} {n : Nat} (h : GridAt H0 H g M n) : RowsAt H g M n := by
  obtain ⟨rs, h1, h2, _, _, h5⟩ := h
  exact ⟨rs, h1, h2, h5⟩
theorem RowsAt.same {H H' : Hp} {g : Addr} {M : Nat → Nat → Int} {n : Nat} (e : Same H H') (h : RowsAt H g M n) : RowsAt H' g M n := by
  obtain ⟨rs, h1, h2, h3⟩ := h
  exact ⟨rs, e _ _ h1, h2, fun a r h => e _ _ (h3 a r h)⟩
theorem RowsAt.congr {H : Hp} {g : Addr} {M M' : Nat → Nat → Int} {n : Nat} (e : ∀ a b, a < n → b < n → M a b = M' a b) (h : RowsAt H g M n) : RowsAt H g M' n := by
  obtain ⟨rs, h1, h2, h3⟩ := h
  refine ⟨rs, h1, h2, fun a r ha => ?_⟩
  rw [h3 a r ha]
  have : a < n := by rw [← h2]; exact (List.getElem?_eq_some_iff.mp ha).1
  rw [rowV_congr fun b hb => e a b this hb]
theorem GridAt.congr {H0 H : Hp} {g : Addr} {M M' : Nat → Nat → Int} {n : Nat} (e : ∀ a b, a < n → b < n → M a b = M' a b) (h : GridAt H0 H g M n) : GridAt H0 H g M' n := by
  obtain ⟨rs, h1, h2, h3, h4, h5⟩ := h
  refine ⟨rs, h1, h2, h3, h4, fun a r ha => ?_⟩
  rw [h5 a r ha]
  have : a < n := by rw [← h2]; exact (List.getElem?_eq_some_iff.mp ha).1
  rw [rowV_congr fun b hb => e a b this hb]
/-- one cell looked at -/
theorem RowsAt.get {H : Hp} {g : Addr} {M : Nat → Nat → Int} {n a b : Nat} (h : RowsAt H g M n) (ha : a < n) (hb : b < n) : ∃ (rs : List Addr) (r : Addr), H g = some (.lst (rs.map V.ref)) ∧ (rs.map V.ref)[a]? = some (V.ref r) ∧ H r = some (.lst (rowV n (M a))) ∧ (rowV n (M a))[b]? = some (V.int (M a b)) := by
  obtain ⟨rs, h1, h2, h3⟩ := h
  obtain ⟨r, hr⟩ : ∃ r, rs[a]? = some r := ⟨rs[a], List.getElem?_eq_getElem (by omega)⟩
  exact ⟨rs, r, h1, by rw [List.getElem?_map, hr]; rfl, h3 a r hr, rowV_get hb⟩
/-- one cell written -/
theorem GridAt.put {H0 H : Hp} {g : Addr} {M : Nat → Nat → Int} {n a b : Nat} (v : Int) (h : GridAt H0 H g M n) (ha : a < n) (hb : b < n) : ∃ (rs : List Addr) (r : Addr), H g = some (.lst (rs.map V.ref)) ∧ (rs.map V.ref)[a]? = some (V.ref r) ∧ H r = some (.lst (rowV n (M a))) ∧
    H0 r = none ∧ GridAt H0 (upd H r (.lst ((rowV n (M a)).set b (.int v)))) g (fun x y => if x = a ∧ y = b then v else M x y) n := by
  obtain ⟨rs, h1, h2, h3, h4, h5⟩ := h
  obtain ⟨r, hr⟩ : ∃ r, rs[a]? = some r := ⟨rs[a], List.getElem?_eq_getElem (by omega)⟩
  refine ⟨rs, r, h1, by rw [List.getElem?_map, hr]; rfl, h5 a r hr, h4.2 r (List.mem_of_getElem? hr), rs, ?_, h2, h3, h4, fun x q hq => ?_⟩
  · rw [upd_ne fun z => h4.1 (by rw [z]; exact List.mem_of_getElem? hr)]
    exact h1
  · by_cases e : x = a
    · subst e
      rw [hr] at hq
      cases hq
      rw [upd_same, rowV_set]
      congr 2
      refine rowV_congr fun y _ => ?_
      by_cases e : y = b
      · simp only [e, and_self, if_true]
      · simp only [e, and_false, if_false]
    · have : q ≠ r := fun z => e (by rw [z] at hq; exact nd_ix h3 hq hr)
      rw [upd_ne this, h5 x q hq]
      congr 2
      refine rowV_congr fun y _ => ?_
      simp only [e, false_and, if_false]
end L2
end
section
set_option maxRecDepth 100000
set_option maxHeartbeats 4000000
namespace L2
open PySem PySem.Spec PyProof.Rows
/-! ### tables by couples of whole numbers -/
abbrev key2 (t c : Nat) : List Key := [.inl (t : Int), .inl (c : Int)]
theorem key2_inj {t c t' c' : Nat} (h : key2 t c = key2 t' c') : t = t' ∧ c = c' := by
  simp only [key2, List.cons.injEq, Sum.inl.injEq] at h
  omega
theorem key2_kV {t c : Nat} : (key2 t c).map kV = [.int (t : Int), .int (c : Int)] := rfl
section
variable {κ : Type} [DecidableEq κ]
theorem valV_none : ∀ {ks : List (κ × V)} {k : κ}, (∀ p ∈ ks, p.1 ≠ k) → valV ks k = none
  | [], _, _ => rfl
  | p :: r, k, h => by
    rw [valV_neg (h p List.mem_cons_self)]
    exact valV_none fun q hq => h q (List.mem_cons_of_mem _ hq)
theorem valV_mem : ∀ {ks : List (κ × V)}, ks.Pairwise (fun a b => a.1 ≠ b.1) → ∀ p ∈ ks, valV ks p.1 = some p.2
  | [], _, p, hp => by cases hp
  | a :: r, h, p, hp => by
    rw [List.pairwise_cons] at h
    rcases List.mem_cons.mp hp with rfl | hp
    · exact valV_pos rfl
    · rw [valV_neg (h.1 p hp)]
      exact valV_mem h.2 p hp
end
/-- k cells of row t, from the diagonal on -/
def rowT (M : Nat → Nat → Int) (t k : Nat) : List (List Key × V) := (List.range k).map fun j => (key2 t (t + j), V.int (M t (t + j)))
/-- the first i rows -/
def tabL (M : Nat → Nat → Int) (T i : Nat) : List (List Key × V) := (List.range i).flatMap fun t => rowT M t (T + 1 - t)
theorem tabL_succ {M : Nat → Nat → Int} {T i : Nat} : tabL M T (i + 1) = tabL M T i ++ rowT M i (T + 1 - i) := by
  unfold tabL
  rw [List.range_succ, List.flatMap_append]
  simp
theorem rowT_succ {M : Nat → Nat → Int} {t k : Nat} : rowT M t (k + 1) = rowT M t k ++ [(key2 t (t + k), V.int (M t (t + k)))] := by
  unfold rowT
  rw [List.range_succ, List.map_append]
  rfl
theorem rowT_mem {M : Nat → Nat → Int} {t k : Nat} {p : List Key × V} (h : p ∈ rowT M t k) : ∃ j, j < k ∧ p = (key2 t (t + j), V.int (M t (t + j))) := by
  obtain ⟨j, hj, e⟩ := List.mem_map.mp h
  exact ⟨j, List.mem_range.mp hj, e.symm⟩
theorem tabL_mem {M : Nat → Nat → Int} {T i : Nat} {p : List Key × V} (h : p ∈ tabL M T i) : ∃ t c, t < i ∧ t ≤ c ∧ c ≤ T ∧ p = (key2 t c, V.int (M t c)) := by
  obtain ⟨t, ht, hp⟩ := List.mem_flatMap.mp h
  obtain ⟨j, hj, e⟩ := rowT_mem hp
  exact ⟨t, t + j, List.mem_range.mp ht, by omega, by omega, e⟩
theorem rowT_len {M : Nat → Nat → Int} {t k : Nat} : (rowT M t k).length = k := by unfold rowT; rw [List.length_map, List.length_range]
theorem tabL_len {M : Nat → Nat → Int} {T : Nat} (hT : T ≤ 24) : ∀ i, (tabL M T i).length ≤ i * 25
  | 0 => by unfold tabL; simp
  | i + 1 => by
    have := tabL_len (M := M) hT i
    rw [tabL_succ, List.length_append, rowT_len]
    omega
theorem tabL_put {M : Nat → Nat → Int} {T i j : Nat} {v : V} : putK (tabL M T i ++ rowT M i j) (key2 i (i + j)) v = (tabL M T i ++ rowT M i j) ++ [(key2 i (i + j), v)] := by
  refine putK_new _ (valV_none fun p hp e => ?_)
  rcases List.mem_append.mp hp with hp | hp
  · obtain ⟨t, c, h1, h2, h3, rfl⟩ := tabL_mem hp
    have := key2_inj e
    omega
  · obtain ⟨k, h1, rfl⟩ := rowT_mem hp
    have := key2_inj e
    omega
theorem tabL_pw {M : Nat → Nat → Int} {T : Nat} : ∀ i, (tabL M T i).Pairwise fun a b => a.1 ≠ b.1
  | 0 => List.Pairwise.nil
  | i + 1 => by
    rw [tabL_succ, List.pairwise_append]
    refine ⟨tabL_pw i, ?_, fun p hp q hq e => ?_⟩
    · have : ∀ k, (rowT M i k).Pairwise fun a b => a.1 ≠ b.1 := by
        intro k
        induction k with
        | zero => exact List.Pairwise.nil
        | succ k ih =>
          rw [rowT_succ, List.pairwise_append]
          refine ⟨ih, by simp, fun p hp q hq e => ?_⟩
          obtain ⟨j, hj, rfl⟩ := rowT_mem hp
          rw [List.mem_singleton.mp hq] at e
          have := key2_inj e
          omega
      exact this _
    · obtain ⟨t, c, h1, h2, h3, rfl⟩ := tabL_mem hp
      obtain ⟨j, hj, rfl⟩ := rowT_mem hq
      have := key2_inj e
      omega
/-- the whole table -/
def tabM (M : Nat → Nat → Int) (T : Nat) : List (List Key × V) := tabL M T (T + 1)
theorem tabM_ok {M : Nat → Nat → Int} {T : Nat} : ∀ p ∈ tabM M T, ∃ t c, t ≤ c ∧ c ≤ T ∧ p.1 = key2 t c ∧ valV (tabM M T) p.1 = some (.int (M t c)) := fun p hp => by
  have hv := valV_mem (tabL_pw (M := M) (T := T) (T + 1)) p hp
  obtain ⟨t, c, h1, h2, h3, e⟩ := tabL_mem hp
  refine ⟨t, c, h2, h3, by rw [e], ?_⟩
  show valV (tabL M T (T + 1)) p.1 = _
  rw [hv, e]
theorem tabM_len {M : Nat → Nat → Int} {T : Nat} (hT : T ≤ 24) : (tabM M T).length ≤ 1000 := by
  have := tabL_len (M := M) hT (T + 1)
  unfold tabM
  omega
theorem tabM_congr {M M' : Nat → Nat → Int} {T : Nat} (h : ∀ t c, t ≤ c → c ≤ T → M t c = M' t c) : tabM M T = tabM M' T := by
  unfold tabM
  have : ∀ i, i ≤ T + 1 → tabL M T i = tabL M' T i := by
    intro i
    induction i with
    | zero => intro _; rfl
    | succ i ih =>
      intro hi
      rw [tabL_succ, tabL_succ, ih (by omega)]
      congr 1
      unfold rowT
      refine List.map_congr_left fun j hj => ?_
      rw [h i (i + j) (by omega) (by have := List.mem_range.mp hj; omega)]
  exact this _ (Nat.le_refl _)
end L2
end
section
set_option maxRecDepth 100000
set_option maxHeartbeats 4000000
namespace L2
open PySem PySem.Spec PyProof.Rows
theorem for_enum0 {K : PySem.W.Frag} {a : Addr} {xs : List V} {g : TG} {tb : TS} {D : Ends} {σ : St} {H : Hp} (Pv : Nat → St → Hp → Prop) (h0 : Pv 0 σ H) (hl : ∀ i σ H, i ≤ xs.length → Pv i σ H → SqL K H a xs)
    (hs : ∀ i x σ H T, xs[i]? = some x → Pv i σ H → H T = none → g (.ref T) σ (upd H T (.tup [.int (i : Nat), x])) fun σ2 H2 => tb { D with nx := Pv (i + 1), ct := Pv (i + 1), bk := D.nx } σ2 H2) (hd : ∀ σ H, Pv xs.length σ H → D.nx σ H) :
    ∃ W : Nat → Nat → St → Hp → Prop, (∃ m, W 0 m σ H) ∧ ∀ i m σ H, W i m σ H →
      ((Ite K a).stop i H ∧ D.nx σ H) ∨ ((Ite K a).go i H ∧ ∃ N : St → Hp → Prop, (∀ σ' H', N σ' H' → ∃ m', m' < m ∧ W (i + 1) m' σ' H') ∧ ∀ x H', (Ite K a).yld i H x H' → g x σ H' fun σ2 H2 => tb { D with nx := N, ct := N, bk := D.nx } σ2 H2) := by
  refine ⟨fun i m σ H => m = xs.length - i ∧ i ≤ xs.length ∧ Pv i σ H, ⟨_, rfl, Nat.zero_le _, h0⟩, fun i m σ H w => ?_⟩
  obtain ⟨rfl, hi, p⟩ := w
  have q := hl i σ H hi p
  rcases Nat.lt_or_ge i xs.length with hlt | hge
  · refine .inr ⟨⟨xs, _, q, List.getElem?_eq_getElem hlt⟩, Pv (i + 1), fun σ' H' p' => ⟨xs.length - (i + 1), by omega, rfl, hlt, p'⟩, ?_⟩
    rintro x H' ⟨T, y, rfl, hT, rfl, hy⟩
    exact hs i y σ H T (hy xs q) p hT
  · obtain rfl : i = xs.length := by omega
    exact .inl ⟨⟨xs, q, Nat.le_refl _⟩, hd σ H p⟩
theorem PairT.un {K : PySem.W.Frag} {H : Hp} {x : V} {c : Int × Int} (h : PairT H x c) {σ : L2.St} {i j n : Nat} (hn : n = 2) {Q : L2.St → Hp → Prop} (q : Q ((σ.set i (some (.int c.1))).set j (some (.int c.2))) H) : gTup K n (gCons (gName i) (gCons (gName j) gNil)) x σ H Q := by
  subst hn
  obtain ⟨t, rfl, h⟩ := h
  exact ⟨t, _, rfl, SqT.of h, rfl, _, _, rfl, _, _, rfl, rfl, q⟩
theorem PairT.i0 {K : PySem.W.Frag} {H : Hp} {x : V} {c : Int × Int} (h : PairT H x c) {Q : VK} (q : Q (.int c.1) H) : rIx K x (.int 0) H Q := by
  obtain ⟨t, rfl, h⟩ := h
  exact .inr (.inl ⟨t, _, 0, _, rfl, rfl, SqT.of h, rfl, q⟩)
theorem PairT.i1 {K : PySem.W.Frag} {H : Hp} {x : V} {c : Int × Int} (h : PairT H x c) {Q : VK} (q : Q (.int c.2) H) : rIx K x (.int 1) H Q := by
  obtain ⟨t, rfl, h⟩ := h
  exact .inr (.inl ⟨t, _, 1, _, rfl, rfl, SqT.of h, rfl, q⟩)
theorem flt_take {α : Type} {p : α → Bool} {l : List α} {i : Nat} {c : α} (h : l[i]? = some c) (b : Bool) (hb : p c = b) : ((l.take (i + 1)).filter p).length = ((l.take i).filter p).length + (if b then 1 else 0) := by
  rw [take_get h, List.filter_append, List.length_append, List.filter_cons, hb]
  cases b <;> rfl
theorem none_of {H H' : Hp} {a : Addr} (e : Same H H') (h : H' a = none) : H a = none := by
  cases q : H a with
  | none => rfl
  | some o => rw [e _ _ q] at h; cases h
/-- a rain: first, last, least, most -/
abbrev Q4 := Int × Int × Int × Int
abbrev q4V (r : Q4) : List V := [.int r.1, .int r.2.1, .int r.2.2.1, .int r.2.2.2]
def QuadT (H : Hp) (x : V) (r : Q4) : Prop := ∃ t, x = .ref t ∧ H t = some (.tup (q4V r))
theorem QuadT.same {H H' : Hp} (e : Same H H') {x : V} {r : Q4} (h : QuadT H x r) : QuadT H' x r := by
  obtain ⟨t, rfl, h⟩ := h
  exact ⟨t, rfl, e _ _ h⟩
theorem QuadT.mut {H : Hp} {l : Addr} {xs : List V} {o : HO} (hl : H l = some (.lst xs)) {x : V} {r : Q4} (h : QuadT H x r) : QuadT (upd H l o) x r := by
  obtain ⟨t, rfl, h⟩ := h
  refine ⟨t, rfl, ?_⟩
  rw [upd_ne (fun z => by rw [z, hl] at h; cases h)]
  exact h
theorem QuadT.bx {sa : Addr} {H H' : Hp} (hs : Stk H sa) (e : Bx sa H H') {x : V} {r : Q4} (h : QuadT H x r) : QuadT H' x r := by
  obtain ⟨t, rfl, h⟩ := h
  exact ⟨t, rfl, e.tup (ne_stk hs h fun _ z => by cases z) h⟩
theorem QuadT.ix {K : PySem.W.Frag} {H : Hp} {x : V} {r : Q4} (h : QuadT H x r) {i : Nat} {v : V} (hi : (q4V r)[i]? = some v) {Q : VK} (q : Q v H) : rIx K x (.int (i : Nat)) H Q := by
  obtain ⟨t, rfl, h⟩ := h
  exact .inr (.inl ⟨t, _, _, v, rfl, rfl, SqT.of h, at_of rfl hi, q⟩)
theorem QuadT.un {K : PySem.W.Frag} {H : Hp} {x : V} {r : Q4} (h : QuadT H x r) {σ : L2.St} {i j k l n : Nat} (hn : n = 4) {Q : L2.St → Hp → Prop} (q : Q ((((σ.set i (some (.int r.1))).set j (some (.int r.2.1))).set k (some (.int r.2.2.1))).set l (some (.int r.2.2.2))) H) :
    gTup K n (gCons (gName i) (gCons (gName j) (gCons (gName k) (gCons (gName l) gNil)))) x σ H Q := by
  subst hn
  obtain ⟨t, rfl, h⟩ := h
  exact ⟨t, _, rfl, SqT.of h, rfl, _, _, rfl, _, _, rfl, _, _, rfl, _, _, rfl, rfl, q⟩
theorem gnE {i : Nat} {x : V} {σ : L2.St} {H : Hp} {Q : L2.St → Hp → Prop} (h : Q (σ.set i (some x)) H) : gName i x σ H Q := h
end L2
end
section
set_option maxRecDepth 100000
set_option maxHeartbeats 4000000
namespace K27
open PySem PySem.Spec PyProof.Rows L2
abbrev af (d : Int) (l : Addr) : List (Str × V) := [("days_number", V.int d), ("rains_list", V.ref l)]
theorem af_days (d : Int) (l : Addr) : (af d l).lookup ("days_number" : Str) = some (.int d) := by simp [List.lookup]
theorem af_rains (d : Int) (l : Addr) : (af d l).lookup ("rains_list" : Str) = some (.ref l) := by
  have e : (("rains_list" : Str) == ("days_number" : Str)) = false := by decide +kernel
  simp [List.lookup, e]
theorem af_no {d : Int} {l : Addr} {x : Str} (h1 : (x == ("days_number" : Str)) = false) (h2 : (x == ("rains_list" : Str)) = false) : (af d l).lookup x = none := by
  simp [List.lookup, h1, h2]
def AlmAt (K : PySem.W.Frag) (H : Hp) (p : Addr) (d : Int) (rs : List Q4) : Prop := ∃ dx l xs, H p = some (.ins (cA K) dx (af d l)) ∧ H l = some (.lst xs) ∧ Paired (QuadT H) xs rs
theorem AlmAt.same {K : PySem.W.Frag} {H H' : Hp} {p : Addr} {d : Int} {rs : List Q4} (e : Same H H') (h : AlmAt K H p d rs) : AlmAt K H' p d rs := by
  obtain ⟨dx, l, xs, h1, h2, h3⟩ := h
  exact ⟨dx, l, xs, e _ _ h1, e _ _ h2, Paired.mapP h3 fun _ _ z => z.same e⟩
/-- a rain that is allowed -/
def GoodR (r : Q4) : Prop := 1 ≤ r.1 ∧ r.1 ≤ r.2.1 ∧ 0 ≤ r.2.2.1 ∧ r.2.2.1 ≤ r.2.2.2 ∧ r.2.2.2 ≤ 10 ^ 12
section
variable {P : Program} {w : World} {K : PySem.W.Frag} {mg : Str → Option Value} {base : Heap}
def spEach (K : PySem.W.Frag) : Sp := fun vs H Q E => ∃ (z : Str) (l : Addr) (ns : List Int) (m : Int), vs = [.str z, .ref l] ∧ H l = some (.lst (ns.map V.int)) ∧ (z, He.Dv.int m) ∈ limits ∧ (∀ n ∈ ns, n ≤ m) ∧ Q .non H
theorem ok_check_each (T : Txt w K mg) : Ok P w K mg base (L2.CX P w) 5 "check_each" ["what", "numbers"] (spEach K) := by
  refine Ok.defX (f_check_each T) (fun _ _ _ _ _ _ us hl => match us, hl with | [_, _], _ => rfl) sc_check_each (fun vs H Q E h => ?_) (fun f cdv A outer s H vs Q E hr h tk => ?_)
  · obtain ⟨z, l, ns, m, rfl, _⟩ := h
    rfl
  · obtain ⟨z, l, ns, m, rfl, hl, hz, hn, k⟩ := h
    refine ⟨_, (pss_one (ps_for (passes_of rfl) rfl (pi_listK (K := K) rfl (pv 1)) (pg_name (i := 2) sc_check_each.nd rfl (by first | exact Or.inl rfl | exact Or.inr rfl))
        (pss_one (ps_expr (pe_okS (ok_check T) (hr.mono (by first | decide | omega)) rfl (fun σ => passAt tk σ) (pa_cons (pv 0) (pa_cons (pv 2) pa_nil))))))), ?_⟩
    refine ⟨_, rfl, l, rfl, ⟨_, SqL.of hl⟩, for_list (K := K) (a := l) (xs := ns.map V.int) (fun i σ H' => ∃ v2, σ = [some (.str z), some (.ref l), v2] ∧ H' = H) ⟨_, rfl, rfl⟩ (fun _ _ _ _ ⟨_, _, e⟩ => by rw [e]; exact SqL.of hl) ?_ ?_⟩
    · rintro i x σ H' hx ⟨v2, rfl, rfl⟩
      obtain ⟨n, hi, rfl⟩ := ints_get hx
      have hnm := hn n (List.mem_of_getElem? hi)
      exact ⟨_, rfl, _, rfl, z, n, m, rfl, hz, fun _ => ⟨_, rfl, rfl⟩, fun c => absurd hnm (by omega)⟩
    · rintro σ H' ⟨v2, rfl, rfl⟩
      exact k
def spAInit (K : PySem.W.Frag) : Sp := fun vs H Q E => ∃ p dx d s ys rs, vs = [.ref p, .int d, .ref s] ∧ H p = some (.ins (cA K) dx []) ∧ H s = some (.lst ys) ∧ Paired (QuadT H) ys rs ∧ 1 ≤ d ∧ d ≤ 24 ∧ rs.length ≤ 40 ∧ (∀ r ∈ rs, GoodR r) ∧ ∀ H', But p H H' → AlmAt K H' p d rs → Q .non H'
theorem okk_Almanac (T : Txt w K mg) : OkK P w K mg base (L2.CX P w) 6 "Almanac" (cA K) ["self", "days", "rains"] (spAInit K) := by
  refine OkK.defX (fm_Almanac___init__ T) (mk_Almanac T) (g_Almanac T) (fun _ _ _ _ _ _ us hl => match us, hl with | [_, _, _], _ => rfl) sc_Almanac___init__ (fun vs H Q E h => ?_) (fun cdv A outer s H vs Q E hr h tk => ?_)
  · obtain ⟨p, dx, d, s, ys, rs, rfl, _⟩ := h
    rfl
  · obtain ⟨p, dx, d, sd, ys, rs, rfl, hp, hS, hP, d1, d2, hl, hg, k⟩ := h
    have hyl : ys.length ≤ 40 := by rw [Paired.length hP]; exact hl
    refine ⟨_, (pss_cons (ps_expr (pe_okS (ok_check T) (hr.mono (by first | decide | omega)) rfl (fun σ => passAt tk σ) (pa_cons pe_str (pa_cons (pv 1) pa_nil))))
      (pss_cons (ps_expr (pe_okS (ok_check T) (hr.mono (by first | decide | omega)) rfl (fun σ => passAt tk σ) (pa_cons pe_str (pa_cons (pe_callB (len_seqK (K := K) rfl) rfl (n_len T) (by decide +kernel) (pa_cons (pv 2) pa_nil)) pa_nil))))
      (pss_cons (ps_for (passes_of rfl) rfl (pi_listK (K := K) rfl (pv 2)) (pg_name (i := 3) sc_Almanac___init__.nd rfl (by first | exact Or.inl rfl | exact Or.inr rfl))
        (pss_one (ps_expr (pe_okS (ok_check_each T) (hr.mono (by first | decide | omega)) rfl (fun σ => passAt tk σ) (pa_cons pe_str (pa_cons (pe_lst (pa_cons (pe_ix (ix_seqK (K := K) rfl) (pv 3) pe_int (fun _ _ => rfl)) (pa_cons (pe_ix (ix_seqK (K := K) rfl) (pv 3) pe_int (fun _ _ => rfl)) pa_nil))) pa_nil))))))
      (pss_cons (ps_if (pt_cmpR op_lt (pv 1) pe_int (nomark _)) (pss_one (ps_raise rfl tk (pmk_x (x_BadSky T) (hr.mono (by first | decide | omega)) rfl (pa_cons pe_int pa_nil)))) pss_nil)
      (pss_cons (ps_for (passes_of rfl) rfl (pi_enum rfl (n_enumerate T) (pa_cons (pv 2) pa_nil)) (pg_tupK (K := K) (n := 2) rfl rfl (pgs_cons (pg_name (i := 4) sc_Almanac___init__.nd rfl (by first | exact Or.inl rfl | exact Or.inr rfl)) (pgs_cons (pg_tupK (K := K) (n := 4) rfl rfl (pgs_cons (pg_name (i := 5) sc_Almanac___init__.nd rfl (by first | exact Or.inl rfl | exact Or.inr rfl)) (pgs_cons (pg_name (i := 6) sc_Almanac___init__.nd rfl (by first | exact Or.inl rfl | exact Or.inr rfl)) (pgs_cons (pg_name (i := 7) sc_Almanac___init__.nd rfl (by first | exact Or.inl rfl | exact Or.inr rfl)) (pgs_cons (pg_name (i := 8) sc_Almanac___init__.nd rfl (by first | exact Or.inl rfl | exact Or.inr rfl)) pgs_nil))))) pgs_nil)))
        (pss_one (ps_if (PW.pt (pw_or (pt_cmpR op_lt (pv 5) pe_int (nomark _)) (pw_or (pt_cmpR op_lt (pv 6) (pv 5) (nomark _)) (pw_or (pt_cmpR op_lt (pv 7) pe_int (nomark _)) (pw_or1 (pt_cmpR op_lt (pv 8) (pv 7) (nomark _))))))) (pss_one (ps_raise rfl tk (pmk_x (x_BadSky T) (hr.mono (by first | decide | omega)) rfl (pa_cons (pe_op op_add (pv 4) pe_int) pa_nil)))) pss_nil)))
      (pss_cons (ps_fld (pv 0) (pv 1) rfl)
      (pss_one (ps_fld (pv 0) (pe_lc (own := [("rain", 3)]) rfl sc_Almanac___init__.nd (pi_listK (K := K) rfl (pv 2)) (blkOk_by (N := ["self", "days", "rains", "rain", "at", "first", "last", "least", "most"]) (sc := defScope s_Almanac___init__) (by decide +kernel)) (fun _ _ _ _ _ => (pg_name (i := 3) sc_Almanac___init__.nd rfl (by first | exact Or.inl rfl | exact Or.inr rfl))) (fun _ _ _ _ _ => pts_nil) (fun _ _ _ _ _ => (pe_tup (pa_cons (pe_ix (ix_seqK (K := K) rfl) (pv 3) pe_int (fun _ _ => rfl)) (pa_cons (pe_ix (ix_seqK (K := K) rfl) (pv 3) pe_int (fun _ _ => rfl)) (pa_cons (pe_ix (ix_seqK (K := K) rfl) (pv 3) pe_int (fun _ _ => rfl)) (pa_cons (pe_ix (ix_seqK (K := K) rfl) (pv 3) pe_int (fun _ _ => rfl)) pa_nil))))))) rfl)))))))), ?_⟩
    refine ⟨_, rfl, "days", d, 24, rfl, lim_days, fun c1 => ?_, fun c1 => absurd d2 (by omega)⟩
    refine ⟨_, rfl, _, _, rfl, .inl (SqL.of hS), "rains", _, 40, rfl, lim_rains, fun c2 => ?_, fun c2 => absurd hyl (by omega)⟩
    refine ⟨_, rfl, sd, rfl, ⟨_, SqL.of hS⟩, for_list (K := K) (a := sd) (xs := ys) (fun i σ H' => ∃ v3, σ = [some (.ref p), some (.int d), some (.ref sd), v3, none, none, none, none, none] ∧ Same H H') ⟨_, rfl, Same.refl H⟩ (fun _ _ _ _ ⟨_, _, e⟩ => SqL.of (e _ _ hS)) ?_ ?_⟩
    · rintro i x σ H' hx ⟨v3, rfl, e⟩
      obtain ⟨r, hr', hq⟩ := paired_get hP hx
      have hgr := hg r (List.mem_of_getElem? hr')
      have hq := hq.same e
      refine ⟨_, rfl, hq.ix (i := 2) rfl ⟨_, rfl, hq.ix (i := 3) rfl ⟨(by show 2 ≤ sizeLine; decide), fun m hm => ?_⟩⟩⟩
      obtain ⟨s1, g1⟩ := new2 (.lst [V.int r.2.2.1, V.int r.2.2.2]) hm
      refine ⟨"cans", m, [r.2.2.1, r.2.2.2], 10 ^ 12, rfl, g1, lim_cans, fun n hn => ?_, ?_⟩
      · unfold GoodR at hgr
        simp only [List.mem_cons, List.not_mem_nil, or_false] at hn
        rcases hn with rfl | rfl <;> omega
      · exact ⟨_, rfl, e.trans s1⟩
    · rintro σ H1 ⟨v3, rfl, e1⟩
      refine ⟨_, rfl, _, _, rfl, rfl, _, rfl, ?_⟩
      rw [show decide (d < 1) = false from decide_eq_false (by omega)]
      refine iteF ⟨_, rfl, sd, ys, rfl, SqL.of (e1 _ _ hS), for_enum0 (K := K) (a := sd) (xs := ys) (fun i σ H' => ∃ v3 v4 v5 v6 v7 v8, σ = [some (.ref p), some (.int d), some (.ref sd), v3, v4, v5, v6, v7, v8] ∧ Same H H') ⟨_, _, _, _, _, _, rfl, e1⟩ (fun _ _ _ _ ⟨_, _, _, _, _, _, _, e⟩ => SqL.of (e _ _ hS)) ?_ ?_⟩
      · rintro i x σ H' TT hx ⟨v3, v4, v5, v6, v7, v8, rfl, e⟩ hTT
        obtain ⟨r, hr', hq⟩ := paired_get hP hx
        have hgr := hg r (List.mem_of_getElem? hr')
        unfold GoodR at hgr
        obtain ⟨s1, g1⟩ := new2 (.tup [.int (i : Nat), x]) hTT
        have e2 := e.trans s1
        have hq := hq.same e2
        refine ⟨TT, _, rfl, SqT.of g1, rfl, _, _, rfl, _, _, rfl, hq.un rfl ⟨rfl, ?_⟩⟩
        refine ⟨_, rfl, _, _, rfl, rfl, _, rfl, ?_⟩
        rw [decide_eq_false (by omega)]
        refine ⟨_, rfl, _, rfl, _, _, rfl, rfl, _, rfl, ?_⟩
        rw [decide_eq_false (by omega)]
        refine ⟨_, rfl, _, _, rfl, rfl, _, rfl, ?_⟩
        rw [decide_eq_false (by omega)]
        refine ⟨_, rfl, _, rfl, _, _, rfl, rfl, _, rfl, ?_⟩
        rw [decide_eq_false (by omega)]
        exact ⟨_, _, _, _, _, _, rfl, e2⟩
      · rintro σ H2 ⟨v3, v4, v5, v6, v7, v8, rfl, e2⟩
        have hp2 := e2 _ _ hp
        have hS2 := e2 _ _ hS
        have nps : sd ≠ p := fun z => by rw [z, hp2] at hS2; cases hS2
        refine ⟨_, rfl, _, rfl, p, _, dx, [], rfl, hp2, cl_Almanac T, na_Almanac_days_number T, (by show 0 < 1000; decide), ?_⟩
        have b1 : But p H2 (upd H2 p (.ins (cA K) dx (putF "days_number" (.int d) []))) := (But.refl p H2).upd
        have p1 : upd H2 p (.ins (cA K) dx (putF "days_number" (.int d) [])) p = some (.ins (cA K) dx (putF "days_number" (.int d) [])) := upd_same
        generalize upd H2 p (.ins (cA K) dx (putF "days_number" (.int d) [])) = H3 at b1 p1 ⊢
        have hS3 := b1 _ _ hS2 nps
        have hP3 : Paired (QuadT H3) ys rs := Paired.mapP hP fun _ _ z => by
          obtain ⟨t, rfl, h⟩ := z.same e2
          exact ⟨t, rfl, b1 _ _ h fun z => by rw [z, hp2] at h; cases h⟩
        refine ⟨_, rfl, sd, rfl, ⟨_, SqL.of hS3⟩, fun D hD => lc_acc (K := K) (a := sd) (xs := ys) hD (SqL.of hS3) (by omega) (fun j acc H4 => Paired (QuadT H4) acc (rs.take j)) (fun _ _ => .nil) ?_ ?_⟩
        · rintro j x acc H4 N N0 hx s2 hacc hI hN hN0
          obtain ⟨r, hc, hr⟩ := paired_get hP3 hx
          have hr := hr.same s2
          refine ⟨rfl, ?_⟩
          refine ⟨_, rfl, hr.ix (i := 0) rfl ⟨_, rfl, hr.ix (i := 1) rfl ⟨_, rfl, hr.ix (i := 2) rfl ⟨_, rfl, hr.ix (i := 3) rfl ⟨(by show 4 ≤ sizeLine; decide), fun t ht => ?_⟩⟩⟩⟩⟩
          obtain ⟨s3, g3⟩ := new2 (.tup (q4V r)) ht
          have tD : t ≠ D := fun z => by rw [z, hacc] at ht; cases ht
          refine hN _ _ s3 fun H5 b5 _ => ?_
          rw [take_get hc]
          refine paired_snoc (Paired.mapP hI fun _ _ z => ?_) ⟨t, rfl, b5 _ _ g3 tD⟩
          obtain ⟨u, rfl, h⟩ := z.same s3
          exact ⟨u, rfl, b5 _ _ h fun z => by rw [z, s3 _ _ hacc] at h; cases h⟩
        · rintro acc H4 s2 hacc hal hI
          rw [Paired.length hP3, List.take_length] at hI
          have p2 := s2 _ _ p1
          refine ⟨_, rfl, p, _, dx, _, rfl, p2, cl_Almanac T, na_Almanac_rains_list T, (by show 1 < 1000; decide), ?_⟩
          have pD : D ≠ p := fun z => by rw [z, p1] at hD; cases hD
          have b2 : But p H (upd H4 p (.ins (cA K) dx (putF "rains_list" (.ref D) (putF "days_number" (.int d) [])))) := ((But.of e2).trans (b1.trans (But.of s2))).upd
          refine k _ b2 ⟨dx, D, acc, ?_, by rw [upd_ne pD]; exact hacc, Paired.mapP hI fun _ _ z => ?_⟩
          · rw [upd_same]
            have e : ¬ (("days_number" : Str) = "rains_list") := by decide +kernel
            show some (HO.ins (cA K) dx (if ("days_number" : Str) = "rains_list" then _ else _)) = _
            rw [if_neg e]
            rfl
          · obtain ⟨u, rfl, h⟩ := z
            exact ⟨u, rfl, by rw [upd_ne fun z => by rw [z, p2] at h; cases h]; exact h⟩
/-- the making of an almanac that is allowed -/
theorem amade {E : XK} {Q : Addr → Hp → Prop} {H : Hp} {s : Addr} {ys : List V} {rs : List Q4} {d : Int} (hS : H s = some (.lst ys)) (hP : Paired (QuadT H) ys rs) (d1 : 1 ≤ d) (d2 : d ≤ 24) (hl : rs.length ≤ 40) (hg : ∀ r ∈ rs, GoodR r)
    (k : ∀ x H', H x = none → Same H H' → AlmAt K H' x d rs → Q x H') :
    ∀ x dx, H x = none → H dx = none → dx ≠ x → spAInit K (.ref x :: ([.int d, .ref s] ++ [])) (upd (upd H dx (.own x)) x (.ins (cA K) dx [])) (fun v H2 => v = .non ∧ Q x H2) E := by
  intro x dx hx hdx hne
  have s1 : Same H (upd (upd H dx (.own x)) x (.ins (cA K) dx [])) := same_mut (same_new hdx) hx
  exact ⟨x, dx, d, s, ys, rs, rfl, upd_same, s1 _ _ hS, Paired.mapP hP fun _ _ z => z.same s1, d1, d2, hl, hg, fun H' b h => ⟨rfl, k x H' hx (fun c o hc => b c o (s1 c o hc) (ne_of_none hc hx)) h⟩⟩
def spADays (K : PySem.W.Frag) : Sp := fun vs H Q _ => ∃ p d rs, vs = [.ref p] ∧ AlmAt K H p d rs ∧ Q (.int d) H
theorem okm_Almanac_days (T : Txt w K mg) : OkM P w K mg base CX0 1 (cA K) "days" ["self"] (spADays K) := by
  refine OkM.def0 (fm_Almanac_days T) (me_Almanac_days T) (fun _ _ _ _ _ _ us hl => match us, hl with | [_], _ => rfl) sc_Almanac_days (fun vs H Q E h => ?_) (fun cdv A outer s H vs Q E hr h => ?_)
  · obtain ⟨p, d, rs, rfl, _⟩ := h
    rfl
  · obtain ⟨p, d, rs, rfl, ⟨dx, l, xs, h1, h2, h3⟩, k⟩ := h
    refine ⟨_, (pss_one (ps_ret (pe_fld (pv 0) rfl))), ?_⟩
    exact ⟨_, rfl, p, _, dx, _, _, rfl, h1, cl_Almanac T, na_Almanac_days_number T, af_days d l, k⟩
def spARains (K : PySem.W.Frag) : Sp := fun vs H Q _ => ∃ p d rs, vs = [.ref p] ∧ AlmAt K H p d rs ∧ ∀ l xs H', H l = none → Same H H' → H' l = some (.lst xs) → Paired (QuadT H') xs rs → Q (.ref l) H'
theorem okm_Almanac_rains (T : Txt w K mg) : OkM P w K mg base CX0 1 (cA K) "rains" ["self"] (spARains K) := by
  refine OkM.def0 (fm_Almanac_rains T) (me_Almanac_rains T) (fun _ _ _ _ _ _ us hl => match us, hl with | [_], _ => rfl) sc_Almanac_rains (fun vs H Q E h => ?_) (fun cdv A outer s H vs Q E hr h => ?_)
  · obtain ⟨p, d, rs, rfl, _⟩ := h
    rfl
  · obtain ⟨p, d, rs, rfl, ⟨dx, l, xs, h1, h2, h3⟩, k⟩ := h
    refine ⟨_, (pss_one (ps_ret (pe_callTy (list_ofK (K := K) rfl) rfl (n_list T) (by decide +kernel) (pa_cons (pe_fld (pv 0) rfl) pa_nil)))), ?_⟩
    refine ⟨_, rfl, p, _, dx, _, _, rfl, h1, cl_Almanac T, na_Almanac_rains_list T, af_rains d l, l, xs, rfl, .inl (SqL.of h2), fun m hm => ?_⟩
    obtain ⟨s1, g1⟩ := new2 (.lst xs) hm
    exact k m xs _ hm s1 g1 (Paired.mapP h3 fun _ _ z => z.same s1)
end
end K27
end
section
set_option maxRecDepth 100000
set_option maxHeartbeats 4000000
namespace K27
open PySem PySem.Spec PyProof.Rows L2
/-! ### what is right with a weather, day by day -/
def okR (r : Q4) (day cans : Int) : Bool := decide (r.1 ≤ day) && (decide (day ≤ r.2.1) && (decide (r.2.2.1 ≤ cans) && decide (cans ≤ r.2.2.2)))
def okF (rs : List Q4) (day b : Int) (g : List Int) (c : Int × Int) : Bool := decide (b < c.1) && (decide (c.1 ≤ (rs.length : Int)) && (!decide (c.1 ∈ g) && okR (rs.getD (c.1 - 1).toNat (0, 0, 0, 0)) day c.2))
def falls (rs : List Q4) (day : Int) : Int → List Int → List (Int × Int) → Option (List Int)
  | _, g, [] => some g
  | b, g, c :: r => if okF rs day b g c = true then falls rs day c.1 (g ++ [c.1]) r else none
/-- a rain that must be gone and is not -/
def late (rs : List Q4) (day : Int) (g : List Int) (at_ : Nat) : Bool := decide ((rs.getD at_ (0, 0, 0, 0)).2.1 ≤ day) && !decide (((at_ : Int) + 1) ∈ g)
def dueBad (rs : List Q4) (day : Int) (g : List Int) : Bool := (List.range rs.length).any (late rs day g)
def dayStep (rs : List Q4) (day : Int) (g : List Int) (rep : List (Int × Int)) : Option (List Int) :=
  match falls rs day 0 g rep with
  | none => none
  | some g' => if dueBad rs day g' = true then none else some g'
def firstBad (rs : List Q4) : Int → List Int → List (List (Int × Int)) → Int
  | _, _, [] => 0
  | k, g, rep :: W => match dayStep rs k g rep with
    | none => k
    | some g' => firstBad rs (k + 1) g' W
def ascends : Int → List (Int × Int) → Bool
  | _, [] => true
  | b, c :: r => decide (b < c.1) && (decide (0 ≤ c.2) && ascends c.1 r)
theorem okR_nn {r : Q4} {day cans : Int} (h0 : 0 ≤ r.2.2.1) (h : okR r day cans = true) : 0 ≤ cans := by
  unfold okR at h
  simp only [Bool.and_eq_true, decide_eq_true_eq] at h
  omega
theorem falls_asc {rs : List Q4} (hg : ∀ r ∈ rs, GoodR r) {day : Int} : ∀ {b : Int} {g : List Int} {rep : List (Int × Int)}, 0 ≤ b → ascends b rep = false → falls rs day b g rep = none
  | b, g, [], _, h => by cases h
  | b, g, c :: r, hb, h => by
    unfold falls
    split
    · rename_i ho
      unfold okF at ho
      simp only [Bool.and_eq_true, decide_eq_true_eq] at ho
      obtain ⟨h1, h2, h3, h4⟩ := ho
      have hn : 0 ≤ c.2 := by
        have lt : (c.1 - 1).toNat < rs.length := by omega
        have e : rs.getD (c.1 - 1).toNat (0, 0, 0, 0) = rs[(c.1 - 1).toNat] := by rw [List.getD_eq_getElem?_getD, List.getElem?_eq_getElem lt]; rfl
        rw [e] at h4
        have := hg _ (List.getElem_mem lt)
        unfold GoodR at this
        exact okR_nn this.2.2.1 h4
      refine falls_asc hg (by omega) ?_
      unfold ascends at h
      rw [decide_eq_true h1, decide_eq_true hn] at h
      simpa using h
    · rfl
section
variable {P : Program} {w : World} {K : PySem.W.Frag} {mg : Str → Option Value} {base : Heap}
end
end K27
end
section
set_option maxRecDepth 100000
set_option maxHeartbeats 4000000
namespace K27
open PySem PySem.Spec PyProof.Rows L2
section
variable {P : Program} {w : World} {K : PySem.W.Frag} {mg : Str → Option Value} {base : Heap}
def spAsc : Sp := fun vs H Q _ => ∃ l xs ws, vs = [.ref l] ∧ H l = some (.lst xs) ∧ Paired (PairT H) xs ws ∧ Q (.bl (ascends 0 ws)) H
theorem ok_report_ascends (T : Txt w K mg) : Ok P w K mg base CX0 1 "report_ascends" ["report"] spAsc := by
  refine Ok.def0 (f_report_ascends T) (fun _ _ _ _ _ _ us hl => match us, hl with | [_], _ => rfl) sc_report_ascends (fun vs H Q E h => ?_) (fun f cdv A outer s H vs Q E hr h => ?_)
  · obtain ⟨l, xs, ws, rfl, _⟩ := h
    rfl
  · obtain ⟨l, xs, ws, rfl, h2, h3, k⟩ := h
    refine ⟨_, (pss_cons (ps_set (i := 1) sc_report_ascends.nd rfl (by first | exact Or.inl rfl | exact Or.inr rfl) pe_int)
      (pss_cons (ps_for PassesOwn.never rfl (pi_listK (K := K) rfl (pv 0)) (pg_tupK (K := K) (n := 2) rfl rfl (pgs_cons (pg_name (i := 2) sc_report_ascends.nd rfl (by first | exact Or.inl rfl | exact Or.inr rfl)) (pgs_cons (pg_name (i := 3) sc_report_ascends.nd rfl (by first | exact Or.inl rfl | exact Or.inr rfl)) pgs_nil)))
        (pss_cons (ps_if (PW.pt (pw_or (pt_cmpR op_le (pv 2) (pv 1) (nomark _)) (pw_or1 (pt_cmpR op_lt (pv 3) pe_int (nomark _))))) (pss_one (ps_ret pe_bl)) pss_nil)
      (pss_one (ps_set (i := 1) sc_report_ascends.nd rfl (by first | exact Or.inl rfl | exact Or.inr rfl) (pv 2)))))
      (pss_one (ps_ret pe_bl)))), ?_⟩
    refine ⟨_, rfl, l, rfl, ⟨_, SqL.of h2⟩, for_list (K := K) (a := l) (xs := xs) (fun i σ H' => ∃ v2 v3 b, σ = [some (.ref l), some (.int b), v2, v3] ∧ H' = H ∧ ascends 0 ws = ascends b (ws.drop i)) ⟨_, _, 0, rfl, rfl, rfl⟩ (fun _ _ _ _ ⟨_, _, _, _, e, _⟩ => by rw [e]; exact SqL.of h2) ?_ ?_⟩
    · rintro i x σ H' hx ⟨v2, v3, b, rfl, rfl, ha⟩
      obtain ⟨c, hc, hr⟩ := paired_get h3 hx
      rw [drop_get hc] at ha
      have step : ascends b (c :: ws.drop (i + 1)) = (decide (b < c.1) && (decide (0 ≤ c.2) && ascends c.1 (ws.drop (i + 1)))) := rfl
      refine PairT.un hr rfl ?_
      refine ⟨_, rfl, _, rfl, _, _, rfl, rfl, _, rfl, ?_⟩
      have no : (decide (b < c.1) && (decide (0 ≤ c.2) && ascends c.1 (ws.drop (i + 1)))) = false → ascends 0 ws = false := fun q => by rw [ha, step, q]
      cases q1 : decide (c.1 ≤ b) with
      | true =>
        have : decide (b < c.1) = false := decide_eq_false (by have := of_decide_eq_true q1; omega)
        rw [no (by rw [this]; rfl)] at k
        exact k
      | false =>
        have q1' : decide (b < c.1) = true := decide_eq_true (by have := of_decide_eq_false q1; omega)
        refine ⟨_, rfl, _, _, rfl, rfl, _, rfl, ?_⟩
        cases q2 : decide (c.2 < 0) with
        | true =>
          have : decide (0 ≤ c.2) = false := decide_eq_false (by have := of_decide_eq_true q2; omega)
          rw [no (by rw [q1', this]; rfl)] at k
          exact k
        | false =>
          have q2' : decide (0 ≤ c.2) = true := decide_eq_true (by have := of_decide_eq_false q2; omega)
          rw [q1', q2'] at step
          exact ⟨_, rfl, _, _, c.1, rfl, rfl, by rw [ha, step]; rfl⟩
    · rintro σ H' ⟨v2, v3, b, rfl, rfl, ha⟩
      rw [Paired.length h3, List.drop_length] at ha
      rw [ha] at k
      exact k
/-- a weather: the reports of each day -/
def RepT (H : Hp) (x : V) (rep : List (Int × Int)) : Prop := ∃ l xs, x = .ref l ∧ H l = some (.lst xs) ∧ Paired (PairT H) xs rep
theorem RepT.same {H H' : Hp} (e : Same H H') {x : V} {rep : List (Int × Int)} (h : RepT H x rep) : RepT H' x rep := by
  obtain ⟨l, xs, rfl, h1, h2⟩ := h
  exact ⟨l, xs, rfl, e _ _ h1, Paired.mapP h2 fun _ _ z => z.same e⟩
def WeaT (H : Hp) (p : Addr) (W : List (List (Int × Int))) : Prop := ∃ xs, H p = some (.lst xs) ∧ Paired (RepT H) xs W
theorem WeaT.same {H H' : Hp} (e : Same H H') {p : Addr} {W : List (List (Int × Int))} (h : WeaT H p W) : WeaT H' p W := by
  obtain ⟨xs, h1, h2⟩ := h
  exact ⟨xs, e _ _ h1, Paired.mapP h2 fun _ _ z => z.same e⟩
def total (W : List (List (Int × Int))) : Nat := (W.map List.length).sum
theorem total_app (a b : List (List (Int × Int))) : total (a ++ b) = total a + total b := by
  unfold total
  rw [List.map_append, List.sum_append]
theorem total_le (W : List (List (Int × Int))) (i : Nat) : total (W.take i) ≤ total W := by
  have := total_app (W.take i) (W.drop i)
  rw [List.take_append_drop] at this
  omega
theorem total_step {W : List (List (Int × Int))} {i : Nat} {rep : List (Int × Int)} (h : W[i]? = some rep) : total (W.take (i + 1)) = total (W.take i) + rep.length := by
  rw [take_get h, total_app]
  unfold total
  simp
def spBegins (K : PySem.W.Frag) : Sp := fun vs H Q _ => ∃ p T rs a W, vs = [.ref p, .ref a] ∧ AlmAt K H p T rs ∧ rs.length ≤ 40 ∧ (∀ r ∈ rs, GoodR r) ∧ WeaT H a W ∧ (W.length : Int) ≤ T ∧ total W ≤ 2000 ∧ ∀ H', Same H H' → Q (.int (firstBad rs 1 [] W)) H'
theorem okm_Almanac_begins (T : Txt w K mg) : OkM P w K mg base CX0 2 (cA K) "begins" ["self", "beginning"] (spBegins K) := by
  refine OkM.def0 (fm_Almanac_begins T) (me_Almanac_begins T) (fun _ _ _ _ _ _ us hl => match us, hl with | [_, _], _ => rfl) sc_Almanac_begins (fun vs H Q E h => ?_) (fun cdv A outer s H vs Q E hr h => ?_)
  · obtain ⟨p, TT, rs, a, W, rfl, _⟩ := h
    rfl
  · obtain ⟨p, TT, rs, a, W, rfl, ⟨dx, l, xs, h1, h2, h3⟩, hl, hg, ⟨ys, w1, w2⟩, hT, htot, k⟩ := h
    have hxl : xs.length = rs.length := Paired.length h3
    refine ⟨_, (pss_cons (ps_set (i := 2) sc_Almanac_begins.nd rfl (by first | exact Or.inl rfl | exact Or.inr rfl) (pe_callTy0 cr_set0 rfl (n_set T) (by decide +kernel)))
      (pss_cons (ps_for PassesOwn.never rfl (pi_enum rfl (n_enumerate T) (pa_cons (pv 1) pa_nil)) (pg_tupK (K := K) (n := 2) rfl rfl (pgs_cons (pg_name (i := 3) sc_Almanac_begins.nd rfl (by first | exact Or.inl rfl | exact Or.inr rfl)) (pgs_cons (pg_name (i := 4) sc_Almanac_begins.nd rfl (by first | exact Or.inl rfl | exact Or.inr rfl)) pgs_nil)))
        (pss_cons (ps_set (i := 5) sc_Almanac_begins.nd rfl (by first | exact Or.inl rfl | exact Or.inr rfl) (pe_op op_add (pv 3) pe_int))
      (pss_cons (ps_if (PW.pt (pw_or (pt_cmpR op_gt (pv 5) (pe_fld (pv 0) rfl) (nomark _)) (pw_or1 (pt_not (pt_val (pe_ok (ok_report_ascends T) (hr.mono (by first | decide | omega)) rfl pass0 (pa_cons (pv 4) pa_nil))))))) (pss_one (ps_ret (pv 5))) pss_nil)
      (pss_cons (ps_for PassesOwn.never rfl (pi_listK (K := K) rfl (pv 4)) (pg_tupK (K := K) (n := 2) rfl rfl (pgs_cons (pg_name (i := 6) sc_Almanac_begins.nd rfl (by first | exact Or.inl rfl | exact Or.inr rfl)) (pgs_cons (pg_name (i := 7) sc_Almanac_begins.nd rfl (by first | exact Or.inl rfl | exact Or.inr rfl)) pgs_nil)))
        (pss_cons (ps_if (PW.pt (pw_or (pt_cmpR op_gt (pv 6) (pe_callB (len_seqK (K := K) rfl) rfl (n_len T) (by decide +kernel) (pa_cons (pe_fld (pv 0) rfl) pa_nil)) (nomark _)) (pw_or1 (pt_cmpR or_sin (pv 6) (pv 2) (by with_unfolding_all rfl))))) (pss_one (ps_ret (pv 5))) pss_nil)
      (pss_cons (ps_asg (pe_ix (ix_seqK (K := K) rfl) (pe_fld (pv 0) rfl) (pe_op op_sub (pv 6) pe_int) (fun _ _ => rfl)) (pg_tupK (K := K) (n := 4) rfl rfl (pgs_cons (pg_name (i := 8) sc_Almanac_begins.nd rfl (by first | exact Or.inl rfl | exact Or.inr rfl)) (pgs_cons (pg_name (i := 9) sc_Almanac_begins.nd rfl (by first | exact Or.inl rfl | exact Or.inr rfl)) (pgs_cons (pg_name (i := 10) sc_Almanac_begins.nd rfl (by first | exact Or.inl rfl | exact Or.inr rfl)) (pgs_cons (pg_name (i := 11) sc_Almanac_begins.nd rfl (by first | exact Or.inl rfl | exact Or.inr rfl)) pgs_nil))))))
      (pss_cons (ps_if (PW.pt (pw_or (pt_cmpR op_lt (pv 5) (pv 8) (nomark _)) (pw_or (pt_cmpR op_gt (pv 5) (pv 9) (nomark _)) (pw_or (pt_cmpR op_lt (pv 7) (pv 10) (nomark _)) (pw_or1 (pt_cmpR op_gt (pv 7) (pv 11) (nomark _))))))) (pss_one (ps_ret (pv 5))) pss_nil)
      (pss_one (ps_expr (pe_sadd (pv 2) (pa_cons (pv 6) pa_nil))))))))
      (pss_one (ps_for PassesOwn.never rfl (pi_enum rfl (n_enumerate T) (pa_cons (pe_fld (pv 0) rfl) pa_nil)) (pg_tupK (K := K) (n := 2) rfl rfl (pgs_cons (pg_name (i := 12) sc_Almanac_begins.nd rfl (by first | exact Or.inl rfl | exact Or.inr rfl)) (pgs_cons (pg_name (i := 13) sc_Almanac_begins.nd rfl (by first | exact Or.inl rfl | exact Or.inr rfl)) pgs_nil)))
        (pss_one (ps_if (PW.pt (pw_and (pt_cmpR op_le (pe_ix (ix_seqK (K := K) rfl) (pv 13) pe_int (fun _ _ => rfl)) (pv 5) (nomark _)) (pw_and1 (pt_cmpR or_snotin (pe_op op_add (pv 12) pe_int) (pv 2) (by with_unfolding_all rfl))))) (pss_one (ps_ret (pv 5))) pss_nil))))))))
      (pss_one (ps_ret pe_int)))), ?_⟩
    refine ⟨rfl, fun sp hsp => ?_⟩
    have s1 : Same H (upd H sp (SetO w sp (fun _ => false) 0)) := same_new hsp
    refine ⟨_, rfl, a, ys, rfl, SqL.of (s1 _ _ w1), for_enum0 (K := K) (a := a) (xs := ys) (fun i σ H' => ∃ v3 v4 v5 v6 v7 v8 v9 v10 v11 v12 v13 S gone, σ = [some (.ref p), some (.ref a), some (.ref sp), v3, v4, v5, v6, v7, v8, v9, v10, v11, v12, v13] ∧ Same H H' ∧ H' sp = some (SetO w sp S gone.length) ∧ (∀ z, S z = decide (z ∈ gone)) ∧ gone.length ≤ total (W.take i) ∧ firstBad rs 1 [] W = firstBad rs ((i : Int) + 1) gone (W.drop i)) ⟨_, _, _, _, _, _, _, _, _, _, _, _, [], rfl, s1, upd_same, fun z => by simp, Nat.zero_le _, rfl⟩ (fun _ _ _ _ h => ?_) ?_ ?_⟩
    · obtain ⟨_, _, _, _, _, _, _, _, _, _, _, _, _, _, e, _⟩ := h
      exact SqL.of (e _ _ w1)
    · rintro i x σ H1 TP hx ⟨v3, v4, v5, v6, v7, v8, v9, v10, v11, v12, v13, S, gone, rfl, e1, hS, hSg, hgl, hfb⟩ hTP
      obtain ⟨rep, hrep, l2, zs, rfl, r1, r2⟩ := paired_get w2 hx
      obtain ⟨s2, g2⟩ := new2 (.tup [.int (i : Nat), .ref l2]) hTP
      have e2 := e1.trans s2
      have hS2 := s2 _ _ hS
      have hiW : i < W.length := (List.getElem?_eq_some_iff.mp hrep).1
      rw [drop_get hrep] at hfb
      have hst : firstBad rs ((i : Int) + 1) gone (rep :: W.drop (i + 1)) = match dayStep rs ((i : Int) + 1) gone rep with
        | none => ((i : Int) + 1)
        | some g' => firstBad rs ((i : Int) + 1 + 1) g' (W.drop (i + 1)) := rfl
      have ret : ∀ H', Same H H' → dayStep rs ((i : Int) + 1) gone rep = none → Q (.int ((i : Int) + 1)) H' := fun H' e hd => by
        rw [hd] at hst
        have := hfb.trans hst
        rw [this] at k
        exact k H' e
      refine ⟨TP, _, rfl, SqT.of g2, rfl, _, _, rfl, _, _, rfl, rfl, ?_⟩
      refine ⟨_, rfl, _, _, rfl, rfl, ?_⟩
      refine ⟨_, rfl, _, rfl, p, _, dx, _, _, rfl, e2 _ _ h1, cl_Almanac T, na_Almanac_days_number T, af_days TT l, _, _, rfl, rfl, _, rfl, ?_⟩
      rw [decide_eq_false (by omega)]
      refine ⟨_, rfl, l2, zs, rep, rfl, e2 _ _ r1, Paired.mapP r2 fun _ _ z => z.same e2, ?_⟩
      cases hasc : ascends 0 rep with
      | false =>
        refine ⟨_, rfl, _, rfl, ret _ e2 ?_⟩
        unfold dayStep
        rw [falls_asc hg (Int.le_refl 0) hasc]
      | true =>
        have hbnd : gone.length + rep.length ≤ total (W.take (i + 1)) := by
          rw [total_step hrep]
          omega
        have htk : total (W.take (i + 1)) ≤ 2000 := Nat.le_trans (total_le W (i + 1)) htot
        refine ⟨_, rfl, _, rfl, l2, rfl, ⟨_, SqL.of (e2 _ _ r1)⟩, for_list (K := K) (a := l2) (xs := zs) (fun j σ H' => ∃ v6 v7 v8 v9 v10 v11 v12 v13 S g b, σ = [some (.ref p), some (.ref a), some (.ref sp), some (.int (i : Nat)), some (.ref l2), some (.int ((i : Int) + 1)), v6, v7, v8, v9, v10, v11, v12, v13] ∧ Same H H' ∧ H' sp = some (SetO w sp S g.length) ∧ (∀ z, S z = decide (z ∈ g)) ∧ g.length ≤ gone.length + j ∧ falls rs ((i : Int) + 1) 0 gone rep = falls rs ((i : Int) + 1) b g (rep.drop j) ∧ ascends b (rep.drop j) = true ∧ 0 ≤ b) ⟨_, _, _, _, _, _, _, _, _, gone, 0, rfl, e2, hS2, hSg, Nat.le_refl _, rfl, hasc, Int.le_refl 0⟩ (fun _ _ _ _ h => ?_) ?_ ?_⟩
        · obtain ⟨_, _, _, _, _, _, _, _, _, _, _, _, e, _⟩ := h
          exact SqL.of (e _ _ r1)
        · rintro j x σ H3 hx3 ⟨v6, v7, v8, v9, v10, v11, v12, v13, S3, g3, b, rfl, e3, hS3, hSg3, hgl3, hfl, has3, hb0⟩
          obtain ⟨c, hc, hr⟩ := paired_get r2 hx3
          have hr := hr.same e3
          have hj : j < rep.length := (List.getElem?_eq_some_iff.mp hc).1
          rw [drop_get hc] at hfl has3
          have hst3 : falls rs ((i : Int) + 1) b g3 (c :: rep.drop (j + 1)) = if okF rs ((i : Int) + 1) b g3 c = true then falls rs ((i : Int) + 1) c.1 (g3 ++ [c.1]) (rep.drop (j + 1)) else none := rfl
          unfold ascends at has3
          simp only [Bool.and_eq_true, decide_eq_true_eq] at has3
          obtain ⟨a1, a2, a3⟩ := has3
          have bad : okF rs ((i : Int) + 1) b g3 c = false → Q (.int ((i : Int) + 1)) H3 := fun q => ret _ e3 (by
            unfold dayStep
            rw [hfl, hst3, q]
            rfl)
          refine PairT.un hr rfl ?_
          refine ⟨_, rfl, _, rfl, p, _, dx, _, _, rfl, e3 _ _ h1, cl_Almanac T, na_Almanac_rains_list T, af_rains TT l, l, xs, rfl, .inl (SqL.of (e3 _ _ h2)), _, _, rfl, rfl, _, rfl, ?_⟩
          rw [hxl]
          cases q1 : decide ((rs.length : Int) < c.1) with
          | true =>
            refine ⟨_, rfl, bad ?_⟩
            unfold okF
            rw [decide_eq_false (p := c.1 ≤ (rs.length : Int)) (by have := of_decide_eq_true q1; omega)]
            simp
          | false =>
            have q1 := of_decide_eq_false q1
            refine ⟨_, rfl, _, rfl, c.1, sp, S3, _, rfl, rfl, hS3, _, rfl, ?_⟩
            rw [hSg3]
            cases q2 : decide (c.1 ∈ g3) with
            | true =>
              refine ⟨_, rfl, bad ?_⟩
              unfold okF
              rw [q2]
              simp
            | false =>
              obtain ⟨n, hn⟩ : ∃ n : Nat, c.1 = (n : Int) + 1 := ⟨(c.1 - 1).toNat, by omega⟩
              have hnl : n < rs.length := by omega
              obtain ⟨r, hr4⟩ : ∃ r, rs[n]? = some r := ⟨rs[n], List.getElem?_eq_getElem hnl⟩
              obtain ⟨y, hy⟩ : ∃ y, xs[n]? = some y := ⟨xs[n]'(by omega), List.getElem?_eq_getElem _⟩
              obtain ⟨r', hr', hq⟩ := paired_get h3 hy
              rw [hr4] at hr'
              cases hr'
              have hq := hq.same e3
              have egr : rs.getD (c.1 - 1).toNat (0, 0, 0, 0) = r := by
                have : (c.1 - 1).toNat = n := by omega
                rw [this, List.getD_eq_getElem?_getD, hr4]
                rfl
              have okr : okF rs ((i : Int) + 1) b g3 c = okR r ((i : Int) + 1) c.2 := by
                unfold okF
                rw [egr, decide_eq_true a1, decide_eq_true (by omega), q2]
                rfl
              refine ⟨_, rfl, p, _, dx, _, _, rfl, e3 _ _ h1, cl_Almanac T, na_Almanac_rains_list T, af_rains TT l, _, rfl, _, _, rfl, rfl, .inl ⟨l, xs, _, y, rfl, rfl, SqL.of (e3 _ _ h2), at_of (by omega) hy, hq.un rfl ?_⟩⟩
              refine ⟨_, rfl, _, rfl, _, _, rfl, rfl, _, rfl, ?_⟩
              have badR : okR r ((i : Int) + 1) c.2 = false → Q (.int ((i : Int) + 1)) H3 := fun q => bad (okr.trans q)
              cases t1 : decide ((i : Int) + 1 < r.1) with
              | true =>
                refine ⟨_, rfl, badR ?_⟩
                unfold okR
                rw [decide_eq_false (p := r.1 ≤ (i : Int) + 1) (by have := of_decide_eq_true t1; omega)]
                rfl
              | false =>
                have t1 := of_decide_eq_false t1
                refine ⟨_, rfl, _, rfl, _, _, rfl, rfl, _, rfl, ?_⟩
                cases t2 : decide (r.2.1 < (i : Int) + 1) with
                | true =>
                  refine ⟨_, rfl, badR ?_⟩
                  unfold okR
                  rw [decide_eq_false (p := (i : Int) + 1 ≤ r.2.1) (by have := of_decide_eq_true t2; omega)]
                  simp
                | false =>
                  have t2 := of_decide_eq_false t2
                  refine ⟨_, rfl, _, rfl, _, _, rfl, rfl, _, rfl, ?_⟩
                  cases t3 : decide (c.2 < r.2.2.1) with
                  | true =>
                    refine ⟨_, rfl, badR ?_⟩
                    unfold okR
                    rw [decide_eq_false (p := r.2.2.1 ≤ c.2) (by have := of_decide_eq_true t3; omega)]
                    simp
                  | false =>
                    have t3 := of_decide_eq_false t3
                    refine ⟨_, rfl, _, rfl, _, _, rfl, rfl, _, rfl, ?_⟩
                    cases t4 : decide (r.2.2.2 < c.2) with
                    | true =>
                      refine ⟨_, rfl, badR ?_⟩
                      unfold okR
                      rw [decide_eq_false (p := c.2 ≤ r.2.2.2) (by have := of_decide_eq_true t4; omega)]
                      simp
                    | false =>
                      have t4 := of_decide_eq_false t4
                      have good : okF rs ((i : Int) + 1) b g3 c = true := by
                        rw [okr]
                        unfold okR
                        rw [decide_eq_true (by omega), decide_eq_true (by omega), decide_eq_true (by omega), decide_eq_true (by omega)]
                        rfl
                      refine ⟨_, rfl, ⟨sp, S3, _, rfl, hS3⟩, _, rfl, sp, c.1, S3, _, rfl, rfl, hS3, (by show _ < 4096; omega), ?_⟩
                      have hno : S3 c.1 = false := by rw [hSg3, q2]
                      rw [hno]
                      have hsp0 : H sp = none := hsp
                      refine ⟨_, _, _, _, _, _, _, _, fun j => S3 j || decide (j = c.1), g3 ++ [c.1], c.1, rfl, same_mut e3 hsp0, ?_, fun z => ?_, ?_, ?_, a3, by omega⟩
                      · rw [upd_same, List.length_append]
                        rfl
                      · show (S3 z || decide (z = c.1)) = _
                        rw [hSg3]
                        simp
                      · rw [List.length_append]
                        show _ + 1 ≤ _
                        omega
                      · rw [hfl, hst3, good]
                        rfl
        · rintro σ H3 ⟨v6, v7, v8, v9, v10, v11, v12, v13, S3, g, b, rfl, e3, hS3, hSg3, hgl3, hfl, has3, hb0⟩
          rw [Paired.length r2, List.drop_length] at hfl
          have hfl : falls rs ((i : Int) + 1) 0 gone rep = some g := hfl
          rw [Paired.length r2] at hgl3
          have hds : dayStep rs ((i : Int) + 1) gone rep = if dueBad rs ((i : Int) + 1) g = true then none else some g := by
            unfold dayStep
            rw [hfl]
          refine ⟨_, rfl, p, _, dx, _, _, rfl, e3 _ _ h1, cl_Almanac T, na_Almanac_rains_list T, af_rains TT l, l, xs, rfl, SqL.of (e3 _ _ h2), for_enum0 (K := K) (a := l) (xs := xs) (fun m σ H' => ∃ v6 v7 v8 v9 v10 v11 v12 v13, σ = [some (.ref p), some (.ref a), some (.ref sp), some (.int (i : Nat)), some (.ref l2), some (.int ((i : Int) + 1)), v6, v7, v8, v9, v10, v11, v12, v13] ∧ Same H3 H' ∧ ∀ q, q < m → late rs ((i : Int) + 1) g q = false) ⟨_, _, _, _, _, _, _, _, rfl, Same.refl H3, fun q h => by omega⟩ (fun _ _ _ _ h => ?_) ?_ ?_⟩
          · obtain ⟨_, _, _, _, _, _, _, _, _, e, _⟩ := h
            exact SqL.of (e _ _ (e3 _ _ h2))
          · rintro m x σ H4 TQ hx4 ⟨v6, v7, v8, v9, v10, v11, v12, v13, rfl, e4, hlt⟩ hTQ
            obtain ⟨r, hr4, hq⟩ := paired_get h3 hx4
            obtain ⟨s5, g5⟩ := new2 (.tup [.int (m : Nat), x]) hTQ
            have e45 := e4.trans s5
            have hq := hq.same (e3.trans e45)
            have hml : m < rs.length := (List.getElem?_eq_some_iff.mp hr4).1
            have egr : rs.getD m (0, 0, 0, 0) = r := by rw [List.getD_eq_getElem?_getD, hr4]; rfl
            have el : late rs ((i : Int) + 1) g m = (decide (r.2.1 ≤ (i : Int) + 1) && !decide ((m : Int) + 1 ∈ g)) := by unfold late; rw [egr]
            refine ⟨TQ, _, rfl, SqT.of g5, rfl, _, _, rfl, _, _, rfl, rfl, ?_⟩
            refine ⟨_, rfl, hq.ix (i := 1) rfl ⟨_, rfl, _, _, rfl, rfl, _, rfl, ?_⟩⟩
            cases t1 : decide (r.2.1 ≤ (i : Int) + 1) with
            | false =>
              refine ⟨_, _, _, _, _, _, _, _, rfl, e45, fun q hq => ?_⟩
              by_cases eq : q = m
              · rw [eq, el, t1]
                rfl
              · exact hlt q (by omega)
            | true =>
              refine ⟨_, rfl, _, _, rfl, rfl, _, rfl, (m : Int) + 1, sp, S3, _, rfl, rfl, e45 _ _ hS3, _, rfl, ?_⟩
              rw [hSg3]
              cases t2 : decide ((m : Int) + 1 ∈ g) with
              | true =>
                refine ⟨_, _, _, _, _, _, _, _, rfl, e45, fun q hq => ?_⟩
                by_cases eq : q = m
                · rw [eq, el, t2]
                  simp
                · exact hlt q (by omega)
              | false =>
                refine ⟨_, rfl, ret _ (e3.trans e45) ?_⟩
                rw [hds, if_pos]
                unfold dueBad
                rw [List.any_eq_true]
                exact ⟨m, List.mem_range.mpr hml, by rw [el, t1, t2]; rfl⟩
          · rintro σ H4 ⟨v6, v7, v8, v9, v10, v11, v12, v13, rfl, e4, hlt⟩
            have hno : dueBad rs ((i : Int) + 1) g = false := by
              unfold dueBad
              rw [List.any_eq_false]
              intro q hq
              rw [hlt q (by rw [hxl]; exact List.mem_range.mp hq)]
              exact fun z => by cases z
            rw [hno] at hds
            have hds : dayStep rs ((i : Int) + 1) gone rep = some g := hds
            refine ⟨_, _, _, _, _, _, _, _, _, _, _, S3, g, rfl, e3.trans e4, e4 _ _ hS3, hSg3, by omega, ?_⟩
            rw [hfb, hst, hds]
            rfl
    · rintro σ H1 ⟨v3, v4, v5, v6, v7, v8, v9, v10, v11, v12, v13, S, gone, rfl, e1, hS, hSg, hgl, hfb⟩
      rw [Paired.length w2, List.drop_length] at hfb
      have : firstBad rs 1 [] W = 0 := hfb
      rw [this] at k
      exact k _ e1
end
end K27
end
section
set_option maxRecDepth 100000
set_option maxHeartbeats 4000000
namespace K27
open PySem PySem.Spec PyProof.Rows L2
def wrongOf (rs : List Q4) (T : Nat) (W : List (List (Int × Int))) : Int := if W.length = T then (if firstBad rs 1 [] W = 0 then -1 else firstBad rs 1 [] W) else 0
theorem inV_ints (n : Int) (ns : List Int) : inV (.int n) (ns.map V.int) = decide (n ∈ ns) := by
  unfold inV
  rw [List.any_map, Bool.eq_iff_iff, decide_eq_true_eq, List.any_eq_true]
  constructor
  · rintro ⟨m, hm, e⟩
    have : m = n := by simpa [eqV] using e
    rw [← this]
    exact hm
  · intro h
    exact ⟨n, h, by simp [eqV]⟩
theorem flat_ints (ns : List Int) : (ns.map V.int).all flatV = true := by
  rw [List.all_map]
  exact List.all_eq_true.mpr fun _ _ => rfl
section
variable {P : Program} {w : World} {K : PySem.W.Frag} {mg : Str → Option Value} {base : Heap}
def spFW : Sp := fun vs H Q _ => ∃ (T : Nat) (rl a : Addr) (xs : List V) (rs : List Q4) (W : List (List (Int × Int))), vs = [.int T, .ref rl, .ref a] ∧ H rl = some (.lst xs) ∧ Paired (QuadT H) xs rs ∧ WeaT H a W ∧ T ≤ 24 ∧ W.length ≤ 100 ∧ rs.length ≤ 40 ∧ (∀ r ∈ rs, GoodR r) ∧ total W ≤ 2000 ∧ ∀ H', Same H H' → Q (.int (wrongOf rs T W)) H'
theorem ok__law_first_wrong (T : Txt w K mg) : Ok P w K mg base CX0 1 "_law_first_wrong" ["days", "rains", "weather"] spFW := by
  refine Ok.def0 (f__law_first_wrong T) (fun _ _ _ _ _ _ us hl => match us, hl with | [_, _, _], _ => rfl) sc__law_first_wrong (fun vs H Q E h => ?_) (fun f cdv A outer s H vs Q E hr h => ?_)
  · obtain ⟨TT, rl, a, xs, rs, W, rfl, _⟩ := h
    rfl
  · obtain ⟨TT, rl, a, xs, rs, W, rfl, h2, h3, ⟨ys, w1, w2⟩, hT, hW, hl, hg, htot, k⟩ := h
    have hxl : xs.length = rs.length := Paired.length h3
    have hyl : ys.length = W.length := Paired.length w2
    refine ⟨_, (pss_cons (ps_if (pt_cmpR op_ne (pe_callB (len_seqK (K := K) rfl) rfl (n_len T) (by decide +kernel) (pa_cons (pv 2) pa_nil)) (pv 0) (nomark _)) (pss_one (ps_ret pe_int)) pss_nil)
      (pss_cons (ps_set (i := 3) sc__law_first_wrong.nd rfl (by first | exact Or.inl rfl | exact Or.inr rfl) (pe_lst pa_nil))
      (pss_cons (ps_for PassesOwn.never rfl (pi_range2 rfl (n_range T) (pa_cons pe_int (pa_cons (pe_op op_add (pv 0) pe_int) pa_nil))) (pg_name (i := 4) sc__law_first_wrong.nd rfl (by first | exact Or.inl rfl | exact Or.inr rfl))
        (pss_cons (ps_set (i := 5) sc__law_first_wrong.nd rfl (by first | exact Or.inl rfl | exact Or.inr rfl) pe_int)
      (pss_cons (ps_for PassesOwn.never rfl (pi_listK (K := K) rfl (pe_ix (ix_listK (K := K) rfl) (pv 2) (pe_op op_sub (pv 4) pe_int) (fun _ _ => rfl))) (pg_name (i := 6) sc__law_first_wrong.nd rfl (by first | exact Or.inl rfl | exact Or.inr rfl))
        (pss_cons (ps_set (i := 7) sc__law_first_wrong.nd rfl (by first | exact Or.inl rfl | exact Or.inr rfl) (pe_ix (ix_seqK (K := K) rfl) (pv 6) pe_int (fun _ _ => rfl)))
      (pss_cons (ps_if (PW.pt (pw_or (pt_cmpR op_le (pv 7) (pv 5) (nomark _)) (pw_or (pt_cmpR op_gt (pv 7) (pe_callB (len_seqK (K := K) rfl) rfl (n_len T) (by decide +kernel) (pa_cons (pv 1) pa_nil)) (nomark _)) (pw_or1 (pt_cmpR op_in_seq (pv 7) (pv 3) (by with_unfolding_all rfl)))))) (pss_one (ps_ret (pv 4))) pss_nil)
      (pss_cons (ps_set (i := 8) sc__law_first_wrong.nd rfl (by first | exact Or.inl rfl | exact Or.inr rfl) (pe_ix (ix_listK (K := K) rfl) (pv 1) (pe_op op_sub (pv 7) pe_int) (fun _ _ => rfl)))
      (pss_cons (ps_if (PW.pt (pw_or (pt_not (pt_chain op_le op_le (pe_ix (ix_seqK (K := K) rfl) (pv 8) pe_int (fun _ _ => rfl)) (pv 4) (pe_ix (ix_seqK (K := K) rfl) (pv 8) pe_int (fun _ _ => rfl)))) (pw_or1 (pt_not (pt_chain op_le op_le (pe_ix (ix_seqK (K := K) rfl) (pv 8) pe_int (fun _ _ => rfl)) (pe_ix (ix_seqK (K := K) rfl) (pv 6) pe_int (fun _ _ => rfl)) (pe_ix (ix_seqK (K := K) rfl) (pv 8) pe_int (fun _ _ => rfl))))))) (pss_one (ps_ret (pv 4))) pss_nil)
      (pss_cons (ps_set (i := 5) sc__law_first_wrong.nd rfl (by first | exact Or.inl rfl | exact Or.inr rfl) (pv 7))
      (pss_one (ps_expr (pe_bm PySem.F.plainAttrs_list PySem.F.slot_list_append PySem.F.type_list_append mt_append (pv 3) (pa_cons (pv 7) pa_nil))))))))))
      (pss_one (ps_for PassesOwn.never rfl (pi_range1 rfl (n_range T) (pa_cons (pe_callB (len_seqK (K := K) rfl) rfl (n_len T) (by decide +kernel) (pa_cons (pv 1) pa_nil)) pa_nil)) (pg_name (i := 9) sc__law_first_wrong.nd rfl (by first | exact Or.inl rfl | exact Or.inr rfl))
        (pss_one (ps_if (PW.pt (pw_and (pt_cmpR op_eq (pe_ix (ix_seqK (K := K) rfl) (pe_ix (ix_listK (K := K) rfl) (pv 1) (pv 9) (fun _ _ => rfl)) pe_int (fun _ _ => rfl)) (pv 4) (nomark _)) (pw_and1 (pt_cmpR op_notIn_seq (pe_op op_add (pv 9) pe_int) (pv 3) (by with_unfolding_all rfl))))) (pss_one (ps_ret (pv 4))) pss_nil)))))))
      (pss_one (ps_ret (pe_un un_neg pe_int)))))), ?_⟩
    refine ⟨_, rfl, _, _, rfl, .inl (SqL.of w1), _, rfl, rfl, _, rfl, ?_⟩
    rw [hyl]
    have ecast : (!decide (V.int (W.length : Int) = V.int (TT : Int))) = !decide (W.length = TT) := by
      congr 1
      rw [decide_eq_decide]
      exact ⟨fun z => by cases z; omega, fun z => by rw [z]⟩
    rw [ecast]
    cases hlen : decide (W.length = TT) with
    | false =>
      have hlen := of_decide_eq_false hlen
      have : wrongOf rs TT W = 0 := by unfold wrongOf; rw [if_neg hlen]
      rw [this] at k
      exact k _ (Same.refl H)
    | true =>
      have hlen := of_decide_eq_true hlen
      have kw : ∀ H', Same H H' → firstBad rs 1 [] W = 0 → Q (.int (-1)) H' := fun H' e z => by
        have : wrongOf rs TT W = -1 := by unfold wrongOf; rw [if_pos hlen, if_pos z]
        rw [this] at k
        exact k H' e
      have kb : ∀ H' (d : Int), Same H H' → d ≠ 0 → firstBad rs 1 [] W = d → Q (.int d) H' := fun H' d e hd z => by
        have : wrongOf rs TT W = d := by unfold wrongOf; rw [if_pos hlen, z, if_neg hd]
        rw [this] at k
        exact k H' e
      refine ⟨(by show 0 ≤ sizeLine; decide), fun gl hgl0 => ?_⟩
      obtain ⟨s1, g1⟩ := new2 (.lst []) hgl0
      refine ⟨_, rfl, _, _, rfl, rfl, 1, TT + 1, rfl, by omega, for_upto (lo := 1) (L := TT) (by omega) (fun i σ H' => ∃ v4 v5 v6 v7 v8 v9 gone, σ = [some (.int TT), some (.ref rl), some (.ref a), some (.ref gl), v4, v5, v6, v7, v8, v9] ∧ Same H H' ∧ H' gl = some (.lst ((gone : List Int).map V.int)) ∧ gone.length ≤ total (W.take i) ∧ firstBad rs 1 [] W = firstBad rs ((i : Int) + 1) gone (W.drop i) ∧ ∀ (q : Nat) (r : Q4), rs[q]? = some r → r.2.1 < (i : Int) + 1 → (q : Int) + 1 ∈ gone) ⟨_, _, _, _, _, _, [], rfl, s1, g1, Nat.zero_le _, rfl, fun q r hq hr => ?_⟩ ?_ ?_⟩
      · have := hg r (List.mem_of_getElem? hq)
        unfold GoodR at this
        omega
      · rintro i σ H1 hi ⟨v4, v5, v6, v7, v8, v9, gone, rfl, e1, hgl, hgn, hfb, hold⟩
        have ed : (1 : Int) + (i : Int) = (i : Int) + 1 := by omega
        rw [ed]
        obtain ⟨rep, hrep⟩ : ∃ rep, W[i]? = some rep := ⟨W[i]'(by omega), List.getElem?_eq_getElem _⟩
        obtain ⟨x, hx⟩ : ∃ x, ys[i]? = some x := ⟨ys[i]'(by omega), List.getElem?_eq_getElem _⟩
        obtain ⟨rep', hrep', l2, zs, rfl, r1, r2⟩ := paired_get w2 hx
        rw [hrep] at hrep'
        cases hrep'
        rw [drop_get hrep] at hfb
        have hst : firstBad rs ((i : Int) + 1) gone (rep :: W.drop (i + 1)) = match dayStep rs ((i : Int) + 1) gone rep with
          | none => ((i : Int) + 1)
          | some g' => firstBad rs ((i : Int) + 1 + 1) g' (W.drop (i + 1)) := rfl
        have ret : ∀ H', Same H H' → dayStep rs ((i : Int) + 1) gone rep = none → Q (.int ((i : Int) + 1)) H' := fun H' e hd => by
          rw [hd] at hst
          exact kb H' _ e (by omega) (hfb.trans hst)
        have hbnd : gone.length + rep.length ≤ total (W.take (i + 1)) := by
          rw [total_step hrep]
          omega
        have htk : total (W.take (i + 1)) ≤ 2000 := Nat.le_trans (total_le W (i + 1)) htot
        refine gnE ?_
        refine ⟨_, rfl, _, rfl, _, _, rfl, rfl, a, ys, _, _, rfl, rfl, SqL.of (e1 _ _ w1), at_of (by omega) hx, l2, rfl, ⟨_, SqL.of (e1 _ _ r1)⟩, for_list (K := K) (a := l2) (xs := zs) (fun j σ H' => ∃ v6 v7 v8 v9 g b, σ = [some (.int TT), some (.ref rl), some (.ref a), some (.ref gl), some (.int ((i : Int) + 1)), some (.int b), v6, v7, v8, v9] ∧ Same H H' ∧ H' gl = some (.lst ((g : List Int).map V.int)) ∧ g.length ≤ gone.length + j ∧ falls rs ((i : Int) + 1) 0 gone rep = falls rs ((i : Int) + 1) b g (rep.drop j) ∧ 0 ≤ b ∧ ∀ z ∈ gone, z ∈ g) ⟨_, _, _, _, gone, 0, rfl, e1, hgl, Nat.le_refl _, rfl, Int.le_refl 0, fun z h => h⟩ (fun _ _ _ _ h => ?_) ?_ ?_⟩
        · obtain ⟨_, _, _, _, _, _, _, e, _⟩ := h
          exact SqL.of (e _ _ r1)
        · rintro j x σ H3 hx3 ⟨v6, v7, v8, v9, g, b, rfl, e3, hg3, hgl3, hfl, hb0, hsub⟩
          obtain ⟨c, hc, hr⟩ := paired_get r2 hx3
          have hr := hr.same e3
          have hj : j < rep.length := (List.getElem?_eq_some_iff.mp hc).1
          rw [drop_get hc] at hfl
          have hst3 : falls rs ((i : Int) + 1) b g (c :: rep.drop (j + 1)) = if okF rs ((i : Int) + 1) b g c = true then falls rs ((i : Int) + 1) c.1 (g ++ [c.1]) (rep.drop (j + 1)) else none := rfl
          have bad : okF rs ((i : Int) + 1) b g c = false → Q (.int ((i : Int) + 1)) H3 := fun q => ret _ e3 (by
            unfold dayStep
            rw [hfl, hst3, q]
            rfl)
          refine ⟨_, rfl, hr.i0 ⟨_, rfl, _, rfl, _, _, rfl, rfl, _, rfl, ?_⟩⟩
          cases q0 : decide (c.1 ≤ b) with
          | true =>
            refine ⟨_, rfl, bad ?_⟩
            unfold okF
            rw [decide_eq_false (p := b < c.1) (by have := of_decide_eq_true q0; omega)]
            rfl
          | false =>
            have q0 := of_decide_eq_false q0
            refine ⟨_, rfl, _, rfl, _, _, rfl, .inl (SqL.of (e3 _ _ h2)), _, _, rfl, rfl, _, rfl, ?_⟩
            rw [hxl]
            cases q1 : decide ((rs.length : Int) < c.1) with
            | true =>
              refine ⟨_, rfl, bad ?_⟩
              unfold okF
              rw [decide_eq_false (p := c.1 ≤ (rs.length : Int)) (by have := of_decide_eq_true q1; omega)]
              simp
            | false =>
              have q1 := of_decide_eq_false q1
              refine ⟨_, rfl, _, rfl, gl, _, rfl, .inl (SqL.of hg3), rfl, flat_ints _, decide (c.1 ∈ g), congrArg V.bl (inV_ints c.1 g), ?_⟩
              cases q2 : decide (c.1 ∈ g) with
              | true =>
                refine ⟨_, rfl, bad ?_⟩
                unfold okF
                rw [q2]
                simp
              | false =>
                obtain ⟨n, hn⟩ : ∃ n : Nat, c.1 = (n : Int) + 1 := ⟨(c.1 - 1).toNat, by omega⟩
                have hnl : n < rs.length := by omega
                obtain ⟨r, hr4⟩ : ∃ r, rs[n]? = some r := ⟨rs[n], List.getElem?_eq_getElem hnl⟩
                obtain ⟨y, hy⟩ : ∃ y, xs[n]? = some y := ⟨xs[n]'(by omega), List.getElem?_eq_getElem _⟩
                obtain ⟨r', hr', hq⟩ := paired_get h3 hy
                rw [hr4] at hr'
                cases hr'
                have hq := hq.same e3
                have egr : rs.getD (c.1 - 1).toNat (0, 0, 0, 0) = r := by
                  have : (c.1 - 1).toNat = n := by omega
                  rw [this, List.getD_eq_getElem?_getD, hr4]
                  rfl
                have okr : okF rs ((i : Int) + 1) b g c = okR r ((i : Int) + 1) c.2 := by
                  unfold okF
                  rw [egr, decide_eq_true (p := b < c.1) (by omega), decide_eq_true (p := c.1 ≤ (rs.length : Int)) (by omega), q2]
                  rfl
                have badR : okR r ((i : Int) + 1) c.2 = false → Q (.int ((i : Int) + 1)) H3 := fun q => bad (okr.trans q)
                refine ⟨_, rfl, _, rfl, _, _, rfl, rfl, rl, xs, _, y, rfl, rfl, SqL.of (e3 _ _ h2), at_of (by omega) hy, ?_⟩
                refine ⟨_, rfl, hq.ix (i := 0) rfl ⟨_, rfl, _, _, rfl, rfl, _, rfl, ?_⟩⟩
                cases t1 : decide (r.1 ≤ (i : Int) + 1) with
                | false =>
                  refine ⟨_, rfl, _, rfl, badR ?_⟩
                  unfold okR
                  rw [t1]
                  rfl
                | true =>
                  refine ⟨_, rfl, hq.ix (i := 1) rfl ⟨_, _, rfl, rfl, _, rfl, ?_⟩⟩
                  cases t2 : decide ((i : Int) + 1 ≤ r.2.1) with
                  | false =>
                    refine ⟨_, rfl, badR ?_⟩
                    unfold okR
                    rw [t2]
                    simp
                  | true =>
                    refine ⟨_, rfl, hq.ix (i := 2) rfl ⟨_, rfl, hr.i1 ⟨_, _, rfl, rfl, _, rfl, ?_⟩⟩⟩
                    cases t3 : decide (r.2.2.1 ≤ c.2) with
                    | false =>
                      refine ⟨_, rfl, _, rfl, badR ?_⟩
                      unfold okR
                      rw [t3]
                      simp
                    | true =>
                      refine ⟨_, rfl, hq.ix (i := 3) rfl ⟨_, _, rfl, rfl, _, rfl, ?_⟩⟩
                      cases t4 : decide (c.2 ≤ r.2.2.2) with
                      | false =>
                        refine ⟨_, rfl, badR ?_⟩
                        unfold okR
                        rw [t4]
                        simp
                      | true =>
                        have good : okF rs ((i : Int) + 1) b g c = true := by
                          rw [okr]
                          unfold okR
                          rw [t1, t2, t3, t4]
                          rfl
                        refine ⟨_, rfl, _, rfl, .inl ⟨rfl, _, SqL.of hg3⟩, _, rfl, gl, _, _, rfl, rfl, hg3, line_lt (by rw [List.length_map]; omega), ?_⟩
                        refine ⟨_, _, _, _, g ++ [c.1], c.1, rfl, same_mut e3 hgl0, by rw [upd_same, List.map_append]; rfl, by rw [List.length_append]; show _ + 1 ≤ _; omega, ?_, by omega, fun z hz => List.mem_append_left _ (hsub z hz)⟩
                        rw [hfl, hst3, good]
                        rfl
        · rintro σ H3 ⟨v6, v7, v8, v9, g, b, rfl, e3, hg3, hgl3, hfl, hb0, hsub⟩
          rw [Paired.length r2, List.drop_length] at hfl
          have hfl : falls rs ((i : Int) + 1) 0 gone rep = some g := hfl
          rw [Paired.length r2] at hgl3
          have hds : dayStep rs ((i : Int) + 1) gone rep = if dueBad rs ((i : Int) + 1) g = true then none else some g := by
            unfold dayStep
            rw [hfl]
          refine ⟨_, rfl, _, _, rfl, .inl (SqL.of (e3 _ _ h2)), _, rfl, by omega, by omega, for_upto (lo := 0) (L := rs.length) (by rw [hxl]; omega) (fun m σ H' => ∃ v6 v7 v8 v9, σ = [some (.int TT), some (.ref rl), some (.ref a), some (.ref gl), some (.int ((i : Int) + 1)), some (.int b), v6, v7, v8, v9] ∧ Same H3 H' ∧ ∀ q r, q < m → rs[q]? = some r → r.2.1 = (i : Int) + 1 → (q : Int) + 1 ∈ g) ⟨_, _, _, _, rfl, Same.refl H3, fun q r h => by omega⟩ ?_ ?_⟩
          · rintro m σ H4 hm ⟨v6, v7, v8, v9, rfl, e4, hlt⟩
            have em : (0 : Int) + (m : Int) = (m : Int) := by omega
            rw [em]
            refine gnE ?_
            obtain ⟨r, hr4⟩ : ∃ r, rs[m]? = some r := ⟨rs[m], List.getElem?_eq_getElem hm⟩
            obtain ⟨y, hy⟩ : ∃ y, xs[m]? = some y := ⟨xs[m]'(by omega), List.getElem?_eq_getElem _⟩
            obtain ⟨r', hr', hq⟩ := paired_get h3 hy
            rw [hr4] at hr'
            cases hr'
            have e34 := e3.trans e4
            have hq := hq.same e34
            refine ⟨_, rfl, _, rfl, rl, xs, _, y, rfl, rfl, SqL.of (e34 _ _ h2), at_of rfl hy, hq.ix (i := 1) rfl ⟨_, rfl, rfl, _, rfl, ?_⟩⟩
            have ec : decide (V.int r.2.1 = V.int ((i : Int) + 1)) = decide (r.2.1 = (i : Int) + 1) := by
              rw [decide_eq_decide]
              exact ⟨fun z => V.int.inj z, fun z => by rw [z]⟩
            rw [ec]
            cases t1 : decide (r.2.1 = (i : Int) + 1) with
            | false =>
              have t1 := of_decide_eq_false t1
              refine ⟨_, _, _, _, rfl, e4, fun q r' hq hr' ht => ?_⟩
              by_cases eq : q = m
              · rw [eq, hr4] at hr'
                cases hr'
                exact absurd ht t1
              · exact hlt q r' (by omega) hr' ht
            | true =>
              have t1 := of_decide_eq_true t1
              refine ⟨_, rfl, _, _, rfl, rfl, _, rfl, gl, _, rfl, .inl (SqL.of (e4 _ _ hg3)), rfl, flat_ints _, !decide ((m : Int) + 1 ∈ g), congrArg (fun z => V.bl (!z)) (inV_ints ((m : Int) + 1) g), ?_⟩
              cases t2 : decide ((m : Int) + 1 ∈ g) with
              | true =>
                have t2 := of_decide_eq_true t2
                refine ⟨_, _, _, _, rfl, e4, fun q r' hq hr' ht => ?_⟩
                by_cases eq : q = m
                · rw [eq]
                  exact t2
                · exact hlt q r' (by omega) hr' ht
              | false =>
                refine ⟨_, rfl, ret _ e34 ?_⟩
                rw [hds, if_pos]
                unfold dueBad
                rw [List.any_eq_true]
                refine ⟨m, List.mem_range.mpr hm, ?_⟩
                unfold late
                rw [List.getD_eq_getElem?_getD, hr4]
                show (decide (r.2.1 ≤ (i : Int) + 1) && !decide ((m : Int) + 1 ∈ g)) = true
                rw [t2, decide_eq_true (by omega)]
                rfl
          · rintro σ H4 ⟨v6, v7, v8, v9, rfl, e4, hlt⟩
            have hin : ∀ (q : Nat) (r : Q4), rs[q]? = some r → r.2.1 < (i : Int) + 1 + 1 → (q : Int) + 1 ∈ g := fun q r hr ht => by
              by_cases c : r.2.1 = (i : Int) + 1
              · exact hlt q r (List.getElem?_eq_some_iff.mp hr).1 hr c
              · exact hsub _ (hold q r hr (by omega))
            have hno : dueBad rs ((i : Int) + 1) g = false := by
              unfold dueBad
              rw [List.any_eq_false]
              intro q hq
              have hql := List.mem_range.mp hq
              unfold late
              rw [List.getD_eq_getElem?_getD, List.getElem?_eq_getElem hql]
              show ¬(decide (rs[q].2.1 ≤ (i : Int) + 1) && !decide ((q : Int) + 1 ∈ g)) = true
              intro z
              simp only [Bool.and_eq_true, decide_eq_true_eq, Bool.not_eq_true', decide_eq_false_iff_not] at z
              exact z.2 (hin q _ (List.getElem?_eq_getElem hql) (by omega))
            rw [hno] at hds
            have hds : dayStep rs ((i : Int) + 1) gone rep = some g := hds
            refine ⟨_, _, _, _, _, _, g, rfl, e3.trans e4, e4 _ _ hg3, by omega, ?_, fun q r hr ht => hin q r hr (by omega)⟩
            rw [hfb, hst, hds]
            have : (((i + 1 : Nat) : Int) + 1) = (i : Int) + 1 + 1 := by omega
            rw [this]
      · rintro σ H1 ⟨v4, v5, v6, v7, v8, v9, gone, rfl, e1, hgl, hgn, hfb, hold⟩
        rw [← hlen, List.drop_length] at hfb
        exact ⟨_, rfl, kw _ e1 hfb⟩
end
end K27
end
section
set_option maxRecDepth 100000
set_option maxHeartbeats 4000000
namespace K27
open PySem PySem.Spec PyProof.Rows L2
/-- the stretches that end on day n + 1, up to first day k -/
def strRow (n k : Nat) : List (Int × Int) := (List.range k).map fun (a : Nat) => ((a : Int), (n : Int) + 1)
def strL : Nat → List (Int × Int)
  | 0 => []
  | n + 1 => strL n ++ strRow n (n + 1)
theorem strRow_succ {n k : Nat} : strRow n (k + 1) = strRow n k ++ [((k : Int), (n : Int) + 1)] := by
  unfold strRow
  rw [List.range_succ, List.map_append]
  rfl
theorem strRow_len {n k : Nat} : (strRow n k).length = k := by unfold strRow; rw [List.length_map, List.length_range]
theorem strL_len : ∀ n, n ≤ 24 → (strL n).length ≤ n * 24
  | 0, _ => Nat.zero_le _
  | n + 1, h => by
    show (strL n ++ strRow n (n + 1)).length ≤ _
    rw [List.length_append, strRow_len]
    have := strL_len n (by omega)
    omega
theorem strL_mem : ∀ {n : Nat} {c : Int × Int}, c ∈ strL n → ∃ a b : Nat, a < b ∧ b ≤ n ∧ c = ((a : Int), (b : Int))
  | 0, c, h => by cases h
  | n + 1, c, h => by
    rcases List.mem_append.mp h with h | h
    · obtain ⟨a, b, h1, h2, rfl⟩ := strL_mem h
      exact ⟨a, b, h1, by omega, rfl⟩
    · obtain ⟨a, ha, rfl⟩ := List.mem_map.mp h
      exact ⟨a, n + 1, List.mem_range.mp ha, Nat.le_refl _, rfl⟩
theorem _root_.L2.PairT.but {H H' : Hp} {D : Addr} {ys : List V} (hD : H D = some (.lst ys)) (e : But D H H') {x : V} {c : Int × Int} (h : PairT H x c) : PairT H' x c := by
  obtain ⟨t, rfl, h⟩ := h
  exact ⟨t, rfl, e _ _ h fun z => by rw [z, hD] at h; cases h⟩
theorem _root_.PySem.Paired.append {α β : Type} {F : α → β → Prop} {l₁ : List α} {m₁ : List β} (h1 : Paired F l₁ m₁) : ∀ {l₂ : List α} {m₂ : List β}, Paired F l₂ m₂ → Paired F (l₁ ++ l₂) (m₁ ++ m₂) := by
  induction h1 with
  | nil => exact fun h => h
  | cons a _ ih => exact fun h => .cons a (ih h)
section
variable {P : Program} {w : World} {K : PySem.W.Frag} {mg : Str → Option Value} {base : Heap}
def spStr : Sp := fun vs H Q _ => ∃ T : Nat, vs = [.int T] ∧ T ≤ 24 ∧ ∀ p ys H', Same H H' → H p = none → H' p = some (.lst ys) → Paired (PairT H') ys (strL T) → Q (.ref p) H'
theorem ok_all_stretches (T : Txt w K mg) : Ok P w K mg base CX0 1 "all_stretches" ["days"] spStr := by
  refine Ok.def0 (f_all_stretches T) (fun _ _ _ _ _ _ us hl => match us, hl with | [_], _ => rfl) sc_all_stretches (fun vs H Q E h => ?_) (fun f cdv A outer s H vs Q E hr h => ?_)
  · obtain ⟨TT, rfl, _⟩ := h
    rfl
  · obtain ⟨TT, rfl, hT, k⟩ := h
    refine ⟨_, (pss_one (ps_ret (pe_lc2 (own := [("b", 1), ("a", 2)]) (vs1 := [2]) rfl sc_all_stretches.nd (pi_range2 rfl (n_range T) (pa_cons pe_int (pa_cons (pe_op op_add (pv 0) pe_int) pa_nil))) (blkOk_by (N := ["days", "b", "a"]) (sc := defScope s_all_stretches) (by decide +kernel)) (by decide) (fun _ _ _ _ _ => (pg_name (i := 1) sc_all_stretches.nd rfl (by first | exact Or.inl rfl | exact Or.inr rfl))) (fun _ _ _ _ _ => pts_nil) (fun _ _ _ _ _ => (pi_range1 rfl (n_range T) (pa_cons (pv 1) pa_nil))) (fun _ _ _ _ _ => (pg_name (i := 2) sc_all_stretches.nd rfl (by first | exact Or.inl rfl | exact Or.inr rfl))) (fun _ _ _ _ _ => pts_nil) (fun _ _ _ _ _ => (pe_tup (pa_cons (pv 2) (pa_cons (pv 1) pa_nil))))))), ?_⟩
    refine ⟨_, rfl, _, _, rfl, rfl, _, _, rfl, by omega, fun D hD => ?_⟩
    refine rng_W (lo := 1) (L := TT) (by omega) (fun i H' => Same H H' ∧ ∃ ys, H' D = some (.lst ys) ∧ Paired (PairT H') ys (strL i)) ⟨same_new hD, [], upd_same, .nil⟩ ?_ ?_
    · rintro i H1 hi ⟨e1, ys1, g1, p1⟩
      have z1 : (1 : Int) + (i : Int) = (i : Int) + 1 := by omega
      refine ⟨rfl, ?_⟩
      refine ⟨_, rfl, _, rfl, by omega, by omega, rng_W (lo := 0) (L := i + 1) (by omega) (fun j H' => Same H H' ∧ ∃ ys, H' D = some (.lst ys) ∧ Paired (PairT H') ys (strL i ++ strRow i j)) ⟨e1, ys1, g1, by unfold strRow; simpa using p1⟩ ?_ ?_⟩
      · rintro j H2 hj ⟨e2, ys2, g2, p2⟩
        have z2 : (0 : Int) + (j : Int) = (j : Int) := by omega
        refine ⟨rfl, ?_⟩
        refine ⟨_, rfl, _, rfl, (by show 2 ≤ sizeLine; decide), fun t ht => ?_⟩
        rw [z1, z2]
        obtain ⟨s3, g3⟩ := new2 (.tup [.int (j : Int), .int ((i : Int) + 1)]) ht
        refine ⟨ys2, s3 _ _ g2, line_lt ?_, same_mut (e2.trans s3) hD, _, upd_same, ?_⟩
        · rw [Paired.length p2, List.length_append, strRow_len]
          have := strL_len i (by omega)
          omega
        · rw [strRow_succ, ← List.append_assoc]
          exact Paired.snoc (Paired.mapP p2 fun _ _ z => (z.same s3).mut (s3 _ _ g2)) ((show PairT _ (.ref t) ((j : Int), (i : Int) + 1) from ⟨t, rfl, g3⟩).mut (s3 _ _ g2))
      · rintro H2 ⟨e2, ys2, g2, p2⟩
        exact ⟨e2, ys2, g2, p2⟩
    · rintro H1 ⟨e1, ys1, g1, p1⟩
      exact k D ys1 H1 e1 hD g1 p1
theorem ok__law_stretches (T : Txt w K mg) : Ok P w K mg base CX0 1 "_law_stretches" ["days"] spStr := by
  refine Ok.def0 (f__law_stretches T) (fun _ _ _ _ _ _ us hl => match us, hl with | [_], _ => rfl) sc__law_stretches (fun vs H Q E h => ?_) (fun f cdv A outer s H vs Q E hr h => ?_)
  · obtain ⟨TT, rfl, _⟩ := h
    rfl
  · obtain ⟨TT, rfl, hT, k⟩ := h
    refine ⟨_, (pss_cons (ps_set (i := 1) sc__law_stretches.nd rfl (by first | exact Or.inl rfl | exact Or.inr rfl) (pe_lst pa_nil))
      (pss_cons (ps_for PassesOwn.never rfl (pi_range2 rfl (n_range T) (pa_cons pe_int (pa_cons (pe_op op_add (pv 0) pe_int) pa_nil))) (pg_name (i := 2) sc__law_stretches.nd rfl (by first | exact Or.inl rfl | exact Or.inr rfl))
        (pss_one (ps_set (i := 1) sc__law_stretches.nd rfl (by first | exact Or.inl rfl | exact Or.inr rfl) (pe_op op_cat (pv 1) (pe_lc (own := [("a", 3)]) rfl sc__law_stretches.nd (pi_range1 rfl (n_range T) (pa_cons (pv 2) pa_nil)) (blkOk_by (N := ["days", "found", "b", "a"]) (sc := defScope s__law_stretches) (by decide +kernel)) (fun _ _ _ _ _ => (pg_name (i := 3) sc__law_stretches.nd rfl (by first | exact Or.inl rfl | exact Or.inr rfl))) (fun _ _ _ _ _ => pts_nil) (fun _ _ _ _ _ => (pe_tup (pa_cons (pv 3) (pa_cons (pv 2) pa_nil)))))))))
      (pss_one (ps_ret (pv 1))))), ?_⟩
    refine ⟨(by show 0 ≤ sizeLine; decide), fun D hD => ?_⟩
    obtain ⟨s1, g1⟩ := new2 (.lst []) hD
    refine ⟨_, rfl, _, _, rfl, rfl, _, _, rfl, by omega, for_upto (lo := 1) (L := TT) (by omega) (fun i σ H' => ∃ v2 v3 p ys, σ = [some (.int TT), some (.ref p), v2, v3] ∧ Same H H' ∧ H p = none ∧ H' p = some (.lst ys) ∧ Paired (PairT H') ys (strL i)) ⟨_, _, D, [], rfl, s1, hD, g1, .nil⟩ ?_ ?_⟩
    · rintro i σ H1 hi ⟨v2, v3, p, ys, rfl, e1, hp, h1, p1⟩
      have z1 : (1 : Int) + (i : Int) = (i : Int) + 1 := by omega
      rw [z1]
      refine gnE ?_
      refine ⟨_, rfl, _, rfl, _, rfl, by omega, by omega, fun D2 hD2 => lc_upto (lo := 0) (L := i + 1) (by omega) hD2 (by omega) (fun j acc H' => Paired (PairT H') acc (strRow i j)) (fun _ _ => .nil) ?_ ?_⟩
      · rintro j acc H2 N N0 hj e2 g2 p2 hN hN0
        have z2 : (0 : Int) + (j : Int) = (j : Int) := by omega
        rw [z2]
        refine gnE ⟨rfl, ?_⟩
        refine ⟨_, rfl, _, rfl, (by show 2 ≤ sizeLine; decide), fun t ht => ?_⟩
        obtain ⟨s3, g3⟩ := new2 (.tup [.int (j : Int), .int ((i : Int) + 1)]) ht
        refine hN _ _ s3 fun H5 b5 _ => ?_
        rw [strRow_succ]
        exact Paired.snoc (Paired.mapP p2 fun _ _ z => (z.same s3).but (s3 _ _ g2) b5) ((show PairT _ (.ref t) ((j : Int), (i : Int) + 1) from ⟨t, rfl, g3⟩).but (s3 _ _ g2) b5)
      · rintro acc H2 e2 g2 hal p2
        have hl := strL_len i (by omega)
        refine ⟨p, D2, ys, acc, rfl, rfl, e2 _ _ h1, g2, Nat.le_of_lt (line_lt ?_), fun l hl => ?_⟩
        · rw [Paired.length p1]
          omega
        · obtain ⟨s3, g3⟩ := new2 (.lst (ys ++ acc)) hl
          have e4 := e1.trans (e2.trans s3)
          exact ⟨_, _, l, ys ++ acc, rfl, e4, none_of (e1.trans e2) hl, g3, (Paired.append (Paired.mapP p1 fun _ _ z => z.same (e2.trans s3)) (Paired.mapP p2 fun _ _ z => z.same s3))⟩
    · rintro σ H1 ⟨v2, v3, p, ys, rfl, e1, hp, h1, p1⟩
      exact ⟨_, rfl, k p ys H1 e1 hp h1 p1⟩
end
end K27
end
section
set_option maxRecDepth 100000
set_option maxHeartbeats 4000000
namespace L2
open PySem PySem.Spec PyProof.Rows
/-! ### the handled exception asked for one of several classes -/
section
variable {X : Cx} {p : Addr × Obj} {d : Option Addr} {D : Addr}
def rIsDT (K : PySem.W.Frag) (D a d : Addr) : List V → Hp → VK → Prop := fun xs H Q => ∃ (tp : Addr) (cs : List V) (us : List Value) (b : Bool) (fs : List (Str × V)), xs = [.ref a, .ref tp] ∧ H tp = some (.tup cs) ∧ Paired ClsV cs us ∧ H d = some (.xd fs) ∧ PySem.W.kitAny K (.ref D) us = some b ∧ Q (.bl b) H
theorem call_isDT {d : Addr} (hp : p ∈ X.pn) (T : ExcC X.K D) (hz : Zc (.ref D) (some d) p.2) (hf : ∃ vs, p.2.data = .fields vs) : CallR X (.builtin "isinstance") (rIsDT X.K D p.1 d) := by
  intro pins s σ H xs us Q I r h
  obtain ⟨tp, cs, ws, b, fs, rfl, hT, k, hd, hk, q⟩ := h
  obtain ⟨u1, u2, rfl, r1, r2⟩ := vals2 r
  obtain rfl : u1 = Value.ref p.1 := r1
  obtain rfl : u2 = Value.ref tp := r2
  obtain ⟨mA, hns, _⟩ := (show ObjOk X.prog X.w H s.heap d (.xd fs) from I.hok d _ hd)
  obtain ⟨od, hod, _⟩ := lookIn_ns hns
  obtain ⟨vs, hdat⟩ := hf
  have at_ : PySem.W.InstAt s.heap p.1 p.2 D (some od) := ⟨(I.pin p (List.mem_append_left _ hp)).1, hz.1, by unfold PySem.W.notCls; rw [hdat] <;> rfl, by rw [hz.2]; exact hod⟩
  obtain ⟨cd, hc, _⟩ := PySem.W.any_some T.hd
  obtain ⟨_, its, rv, o, h1, h2, n, h3⟩ := (show ObjOk X.prog X.w H s.heap tp (.tup cs) from I.hok tp _ hT)
  have e3 := ClsV.all k rv
  subst e3
  obtain ⟨oc, odd, dt, sl⟩ := o
  simp only at h2 h3
  subst h2 h3
  exact PySem.W.kia_tup (PySem.W.kitx_exc (gt := none) (by rw [hc]; rfl) T.hg T.hk T.hs T.ha T.hn T.ht T.hm) I.kIn at_ h1 hk (fun z => nomatch z) fun tk => ⟨.bl b, H, I.tok tk, rfl, q⟩
end
end L2
end
section
set_option maxRecDepth 100000
set_option maxHeartbeats 4000000
namespace L2
open PySem PySem.Spec PyProof.Rows
/-! ### sorted(xs), xs a list of any number of tuples of d ints in [0, B) -/
section
variable {prog : Program} {w : World} {A : Around} {s : Shared}
theorem swoR (r : Value → Int) : SrtO.Swo fun v u => decide (r v < r u) :=
  ⟨fun x y h => decide_eq_false (by have := of_decide_eq_true h; omega), fun x y z h1 h2 => decide_eq_false (by
    have a := of_decide_eq_false h1
    have b := of_decide_eq_false h2
    omega)⟩
/-- two tuples compare as their codes do -/
theorem cmpU {d : Nat} {B : Int} {vs : List Value} (hx : TS.TupsOk s.heap d B vs) (r : Value → Int) (hr : ∀ v ∈ vs, ∀ ns, TS.TupInts s.heap v ns → r v = TS.code B ns) :
    SrtO.Cmp prog w A s (tuples' true) (fun p => p.1 ∈ vs) (SrtO.lt2 fun v u => decide (r v < r u)) := by
  intro p q hp hq
  obtain ⟨ns, T1, n1, b1⟩ := hx _ hp
  obtain ⟨ms, T2, n2, b2⟩ := hx _ hq
  have e : (decide (TS.code B ns < TS.code B ms)) = SrtO.lt2 (fun v u => decide (r v < r u)) p q := by
    show _ = decide (r p.1 < r q.1)
    rw [hr _ hp _ T1, hr _ hq _ T2]
  obtain ⟨a1, l1, e1, ⟨o1, g1, c1, k1, h1⟩, i1⟩ := T1
  obtain ⟨a2, l2, e2, ⟨o2, g2, c2, k2, h2⟩, i2⟩ := T2
  have z1 := i1.length
  have z2 := i2.length
  rw [Array.length_toList] at z1 z2
  rw [e1, e2]
  refine PySem.W.kat_lt g1 h1 g2 h2 ?_
  have z : decide (l1.size < l2.size) = false := decide_eq_false (by omega)
  rw [z]
  exact TS.lex_ints 0 i1 i2 (n1.trans n2.symm) b1 b2 ⟨rfl, e⟩
theorem sortableU {d : Nat} {B : Int} {a : Addr} {vs : List Value} (hd : 1 ≤ d) (h0 : 0 < vs.length) (hx : TS.TupsOk s.heap d B vs) (ha : ∀ o, s.heap.get? a = some o → o.cls ≠ .type "tuple")
    (r : Value → Int) (hr : ∀ v ∈ vs, ∀ ns, TS.TupInts s.heap v ns → r v = TS.code B ns) : SrtO.SortableO prog w A s a vs fun v u => decide (r v < r u) := by
  intro h' keep
  have kp : ∀ b o, s.heap.get? b = some o → o.cls = .type "tuple" → h'.get? b = some o := fun b o g c => keep b o (fun z => ha o (z ▸ g) c) g
  have hx' := hx.keeps kp
  refine ⟨tuples' true, fun Q E hq => ?_, cmpU (s := { s with heap := h' }) hx' r fun v hv ns T => ?_⟩
  · obtain ⟨fs, k, hl, hi⟩ := TS.firsts_of hd vs hx'
    refine PySem.W.kat_kind (T := Value.type "int") k (by omega) (fun f hf => ?_) rfl hq
    obtain ⟨n, t, rfl⟩ := hi f hf
    exact PySem.W.Looks.of_pure rfl
  · obtain ⟨ms, T2, _⟩ := hx v hv
    rw [T.ints.symm.trans (T2.keeps kp).ints]
    exact hr v hv ms T2
end
section
variable {X : Cx} {pins : List (Addr × Obj)} {σ : St} {H : Hp} {s : Shared}
def rSortV (K : PySem.W.Frag) (d : Nat) (B : Int) : List V → Hp → VK → Prop := fun vs H Q => ∃ (a : Addr) (xs : List V), vs = [V.ref a] ∧ SqL K H a xs ∧ (∀ x ∈ xs, ∃ ns, TupI K H x ns ∧ ns.length = d ∧ TS.Bd B ns) ∧
  ∀ (ys : List V) (p : Addr), ys.Perm xs → ys.Pairwise (fun x y => ∀ n m, TupI K H x n → TupI K H y m → TS.code B n ≤ TS.code B m) → H p = none → Q (.ref p) (upd H p (.lst ys))
theorem cr_sortV {d : Nat} {B : Int} (hd : 1 ≤ d) : CallR X (.builtin "sorted") (rSortV X.K d B) := by
  intro pins s σ H vs us Q I r h
  obtain ⟨a, xs, rfl, hs, hx, q⟩ := h
  obtain ⟨its, rv, hl, hz⟩ := I.list hs
  rw [Vals.ref1 r]
  have hlz : its.length ≤ sizeLine := by rw [← rv.length]; exact hz
  obtain ⟨e1, e2⟩ := bkV_refs rv fun x m => by
    obtain ⟨ns, ⟨t, e, _⟩, _⟩ := hx x m
    exact ⟨t, e⟩
  have ok : TS.TupsOk s.heap d B its := fun v hv => by
    obtain ⟨t, rfl⟩ := e2 v hv
    obtain ⟨ns, ⟨t', e, ht⟩, hn, hb⟩ := hx (.ref t) (by rw [e1]; exact List.mem_map.mpr ⟨_, hv, rfl⟩)
    cases e
    exact ⟨ns, tupI_raw I ht, hn, hb⟩
  refine SrtO.sorted_ord (swoR fun v => TS.code B (TS.intsOf s.heap v)) hl.isList hlz (fun h2 h₁ b hb kk => ?_) fun out h1 h2 => ?_
  · refine sortableU (s := { s with heap := h₁ }) hd (by omega) (ok.keeps fun b o g _ => (kk b o g).2) (fun o g => ?_) _ fun v hv ns T => ?_
    · have z : some o = some (seqObj "list" its.toArray 0) := g.symm.trans hb
      cases z
      intro c
      exact absurd (Value.type.inj c) (by decide)
    · obtain ⟨ms, T2, _⟩ := ok v hv
      have z : ns = ms := T.ints.symm.trans (T2.keeps fun b o g _ => (kk b o g).2).ints
      rw [z]
      show TS.code B (TS.intsOf s.heap v) = _
      rw [T2.ints]
  · obtain ⟨ep, he⟩ := PyProof.Rows.sortedAll_at s.heap its out.toArray
    have pm := h2.perm
    have rf : ∀ u ∈ out, ∃ a, u = Value.ref a := fun u hu => e2 u (pm.mem_iff.mp hu)
    have hp : (out.map bkV).Perm xs := by
      rw [e1]
      exact pm.map bkV
    refine ⟨.ref _, upd H (s.heap.objs.size + 1) (.lst (out.map bkV)), I.laid (t' := s.toks) (fun _ _ => PyProof.Rows.sortedAll_old) (Nat.le_succ _) ⟨by rw [hp.length_eq]; exact hz, out, ep, bkV_vals rf, by simpa using he⟩, rfl, q _ _ hp ?_ (I.hok.fresh (Nat.le_succ _))⟩
    rw [List.pairwise_map]
    refine List.Pairwise.imp (fun {u v} huv n m hn hm => ?_) h1
    have z := of_decide_eq_false huv
    obtain ⟨t, et, ht⟩ := hn
    obtain ⟨t', et', ht'⟩ := hm
    have i1 : TS.intsOf s.heap u = n := by
      rw [bkV_ref et]
      exact (tupI_raw I ht).ints
    have i2 : TS.intsOf s.heap v = m := by
      rw [bkV_ref et']
      exact (tupI_raw I ht').ints
    rw [← i1, ← i2]
    omega
end
end L2
namespace L2
open PySem PySem.Spec PyProof.Rows
theorem sortedIK {X : Cx} {K : PySem.W.Frag} (h : X.K = K) : CallR X (.builtin "sorted") (rSortedI K) := h ▸ cr_sortedI
theorem sorted3K {X : Cx} {K : PySem.W.Frag} (h : X.K = K) : CallR X (.builtin "sorted") (rSortV K 3 2000) := h ▸ cr_sortV (by decide)
end L2
namespace L2
theorem du {n m : Nat} (h : n + 64 < m) : n + 1 < m := by omega
end L2
end
section
set_option maxRecDepth 100000
set_option maxHeartbeats 4000000
namespace K27
open PySem PySem.Spec PyProof.Rows L2
/-- how many of these spans lie in the stretch -/
def cS (a b : Int) (ws : List (Int × Int)) : Nat := (ws.filter fun c => decide (a < c.1) && decide (c.2 ≤ b)).length
theorem cS_le {a b : Int} {ws : List (Int × Int)} : cS a b ws ≤ ws.length := List.length_filter_le _ _
section
variable {P : Program} {w : World} {K : PySem.W.Frag} {mg : Str → Option Value} {base : Heap}
def spSpansIn : Sp := fun vs H Q _ => ∃ l xs ws a b, vs = [.ref l, .int a, .int b] ∧ H l = some (.lst xs) ∧ Paired (PairT H) xs ws ∧ ws.length ≤ 40 ∧ ∀ H', Same H H' → Q (.int (cS a b ws)) H'
theorem ok__law_spans_in (T : Txt w K mg) : Ok P w K mg base CX0 1 "_law_spans_in" ["spans", "a", "b"] spSpansIn := by
  refine Ok.def0 (f__law_spans_in T) (fun _ _ _ _ _ _ us hl => match us, hl with | [_, _, _], _ => rfl) sc__law_spans_in (fun vs H Q E h => ?_) (fun f cdv A outer s H vs Q E hr h => ?_)
  · obtain ⟨l, xs, ws, a, b, rfl, _⟩ := h
    rfl
  · obtain ⟨l, xs, ws, a, b, rfl, h2, h3, hl, k⟩ := h
    refine ⟨_, (pss_one (ps_ret (pe_callB (len_seqK (K := K) rfl) rfl (n_len T) (by decide +kernel) (pa_cons (pe_lc (own := [("span", 3)]) rfl sc__law_spans_in.nd (pi_listK (K := K) rfl (pv 0)) (blkOk_by (N := ["spans", "a", "b", "span"]) (sc := defScope s__law_spans_in) (by decide +kernel)) (fun _ _ _ _ _ => (pg_name (i := 3) sc__law_spans_in.nd rfl (by first | exact Or.inl rfl | exact Or.inr rfl))) (fun _ _ _ _ _ => pts_one (PW.pt (pw_and (pt_cmpR op_lt (pv 1) (pe_ix (ix_seqK (K := K) rfl) (pv 3) pe_int (fun _ _ => rfl)) (nomark _)) (pw_and1 (pt_cmpR op_le (pe_ix (ix_seqK (K := K) rfl) (pv 3) pe_int (fun _ _ => rfl)) (pv 2) (nomark _)))))) (fun _ _ _ _ _ => (pv 3))) pa_nil)))), ?_⟩
    have hxl : xs.length ≤ 40 := by rw [Paired.length h3]; exact hl
    refine ⟨_, rfl, l, rfl, ⟨_, SqL.of h2⟩, fun D hD => lc_acc (K := K) (a := l) (xs := xs) hD (SqL.of h2) (by omega) (fun j acc _ => acc.length = cS a b (ws.take j)) (fun _ _ => rfl) ?_ ?_⟩
    · rintro j x acc H' N N0 hx s' hacc hI hN hN0
      obtain ⟨c, hc, hr⟩ := paired_get h3 hx
      refine ⟨rfl, ?_⟩
      refine ⟨_, rfl, _, rfl, (hr.same s').i0 ⟨_, _, rfl, rfl, _, rfl, ?_⟩⟩
      cases q1 : decide (a < c.1) with
      | false => exact iteF (hN0 _ (Same.refl _) (by unfold cS; rw [flt_take hc false (by rw [q1]; rfl)]; exact hI))
      | true =>
        refine ⟨_, rfl, (hr.same s').i1 ⟨_, rfl, _, _, rfl, rfl, _, rfl, ?_⟩⟩
        cases q2 : decide (c.2 ≤ b) with
        | false => exact hN0 _ (Same.refl _) (by unfold cS; rw [flt_take hc false (by rw [q1, q2]; rfl)]; exact hI)
        | true => exact ⟨_, rfl, hN _ _ (Same.refl _) fun _ _ _ => by unfold cS; rw [flt_take hc true (by rw [q1, q2]; rfl), List.length_append, hI]; rfl⟩
    · rintro acc H' s' hacc _ hI
      rw [Paired.length h3, List.take_length] at hI
      refine ⟨D, acc, rfl, .inl (SqL.of hacc), ?_⟩
      rw [hI]
      exact k _ s'
/-- the table of these spans -/
def tabS (ws : List (Int × Int)) (a b : Nat) : Int := (cS (a : Int) (b : Int) ws : Nat)
def spSpanTable : Sp := fun vs H Q _ => ∃ (T : Nat) (l : Addr) (xs : List V) (ws : List (Int × Int)), vs = [.int T, .ref l] ∧ H l = some (.lst xs) ∧ Paired (PairT H) xs ws ∧ ws.length ≤ 40 ∧ T ≤ 24 ∧ ∀ p H', H p = none → Same H H' → H' p = some (.dT (tabM (tabS ws) T)) → Q (.ref p) H'
theorem ok__law_span_table (T : Txt w K mg) : Ok P w K mg base CX0 2 "_law_span_table" ["days", "spans"] spSpanTable := by
  refine Ok.def0 (f__law_span_table T) (fun _ _ _ _ _ _ us hl => match us, hl with | [_, _], _ => rfl) sc__law_span_table (fun vs H Q E h => ?_) (fun f cdv A outer s H vs Q E hr h => ?_)
  · obtain ⟨TT, l, xs, ws, rfl, _⟩ := h
    rfl
  · obtain ⟨TT, l, xs, ws, rfl, h2, h3, hl, hT, k⟩ := h
    refine ⟨_, (pss_cons (ps_set (i := 2) sc__law_span_table.nd rfl (by first | exact Or.inl rfl | exact Or.inr rfl) pe_dnewT)
      (pss_cons (ps_for PassesOwn.never rfl (pi_range1 rfl (n_range T) (pa_cons (pe_op op_add (pv 0) pe_int) pa_nil)) (pg_name (i := 3) sc__law_span_table.nd rfl (by first | exact Or.inl rfl | exact Or.inr rfl))
        (pss_one (ps_for PassesOwn.never rfl (pi_range2 rfl (n_range T) (pa_cons (pv 3) (pa_cons (pe_op op_add (pv 0) pe_int) pa_nil))) (pg_name (i := 4) sc__law_span_table.nd rfl (by first | exact Or.inl rfl | exact Or.inr rfl))
        (pss_one (ps_asg (pe_ok (ok__law_spans_in T) (hr.mono (by first | decide | omega)) rfl pass0 (pa_cons (pv 1) (pa_cons (pv 3) (pa_cons (pv 4) pa_nil)))) (pg_sub (pv 2) (pe_tup (pa_cons (pv 3) (pa_cons (pv 4) pa_nil))) (set_dict (du hr.units))))))))
      (pss_one (ps_ret (pv 2))))), ?_⟩
    refine fun tb htb => ?_
    obtain ⟨s1, g1⟩ := new2 (.dT []) htb
    refine ⟨_, rfl, _, _, rfl, rfl, _, rfl, by omega, by omega, for_upto (lo := 0) (L := TT + 1) (by omega) (fun i σ H' => ∃ v3 v4, σ = [some (.int TT), some (.ref l), some (.ref tb), v3, v4] ∧ Same H H' ∧ H' tb = some (.dT (tabL (tabS ws) TT i))) ⟨_, _, rfl, s1, g1⟩ ?_ ?_⟩
    · rintro i σ H1 hi ⟨v3, v4, rfl, e1, d1⟩
      have z1 : (0 : Int) + (i : Int) = (i : Int) := by omega
      rw [z1]
      refine gnE ?_
      refine ⟨_, rfl, _, rfl, _, _, rfl, rfl, _, _, rfl, by omega, for_upto (lo := (i : Int)) (L := TT + 1 - i) (by omega) (fun j σ H' => ∃ v4, σ = [some (.int TT), some (.ref l), some (.ref tb), some (.int (i : Int)), v4] ∧ Same H H' ∧ H' tb = some (.dT (tabL (tabS ws) TT i ++ rowT (tabS ws) i j))) ⟨_, rfl, e1, by rw [d1]; unfold rowT; simp⟩ ?_ ?_⟩
      · rintro j σ H2 hj ⟨v4, rfl, e2, d2⟩
        have z2 : (i : Int) + (j : Int) = ((i + j : Nat) : Int) := by omega
        rw [z2]
        refine gnE ?_
        refine ⟨_, rfl, _, rfl, _, rfl, l, xs, ws, _, _, rfl, e2 _ _ h2, Paired.mapP h3 fun _ _ z => z.same e2, hl, fun H3 s3 => ?_⟩
        refine ⟨_, rfl, _, rfl, _, rfl, (by show 2 ≤ sizeLine; decide), fun t ht => ?_⟩
        obtain ⟨s4, g4⟩ := new2 (.tup [.int (i : Int), .int ((i + j : Nat) : Int)]) ht
        have g4' : upd H3 t (.tup [.int (i : Int), .int ((i + j : Nat) : Int)]) t = some (.tup ((key2 i (i + j)).map kV)) := by
          rw [g4]
          rfl
        refine ⟨tb, _, rfl, DPut.t (s4 _ _ (s3 _ _ d2)) g4' (line_lt ?_), ?_⟩
        · have := tabL_len (M := tabS ws) hT i
          rw [List.length_append, rowT_len]
          omega
        · refine ⟨_, rfl, same_mut ((e2.trans s3).trans s4) htb, ?_⟩
          rw [upd_same, tabL_put, rowT_succ, List.append_assoc]
          rfl
      · rintro σ H2 ⟨v4, rfl, e2, d2⟩
        refine ⟨_, _, rfl, e2, ?_⟩
        rw [tabL_succ]
        exact d2
    · rintro σ H1 ⟨v3, v4, rfl, e1, d1⟩
      exact ⟨_, rfl, k tb H1 htb e1 d1⟩
end
end K27
end
section
set_option maxRecDepth 100000
set_option maxHeartbeats 4000000
namespace K27
open PySem PySem.Spec PyProof.Rows L2
def eN (rs : List Q4) (a y : Int) : Nat := (rs.filter fun r => decide (a < r.1) && decide (r.2.1 = y)).length
def cN (rs : List Q4) (a b : Int) : Nat := (rs.filter fun r => decide (a < r.1) && decide (r.2.1 ≤ b)).length
theorem cN_step (a b : Int) : ∀ rs : List Q4, cN rs a (b + 1) = cN rs a b + eN rs a (b + 1)
  | [] => rfl
  | r :: rs => by
    have ih := cN_step a b rs
    unfold cN eN at ih ⊢
    rw [List.filter_cons, List.filter_cons, List.filter_cons]
    by_cases h1 : a < r.1
    · rw [decide_eq_true h1]
      by_cases h2 : r.2.1 ≤ b
      · rw [decide_eq_true h2, decide_eq_true (p := r.2.1 ≤ b + 1) (by omega), decide_eq_false (p := r.2.1 = b + 1) (by omega)]
        simp only [Bool.and_self, Bool.and_true, Bool.and_false, if_true, Bool.false_eq_true, if_false, List.length_cons]
        omega
      · by_cases h3 : r.2.1 = b + 1
        · rw [decide_eq_false h2, decide_eq_true (p := r.2.1 ≤ b + 1) (by omega), decide_eq_true h3]
          simp only [Bool.and_self, Bool.and_true, Bool.and_false, if_true, Bool.false_eq_true, if_false, List.length_cons]
          omega
        · rw [decide_eq_false h2, decide_eq_false (p := r.2.1 ≤ b + 1) (by omega), decide_eq_false h3]
          simp only [Bool.and_self, Bool.and_true, Bool.and_false, if_true, Bool.false_eq_true, if_false, List.length_cons]
          omega
    · rw [decide_eq_false h1]
      simp only [Bool.false_and, Bool.false_eq_true, if_false]
      exact ih
theorem cN_none {a b : Int} (hb : b ≤ a) : ∀ {rs : List Q4}, (∀ r ∈ rs, GoodR r) → cN rs a b = 0
  | [], _ => rfl
  | r :: rs, h => by
    have hr := h r List.mem_cons_self
    unfold GoodR at hr
    have ih := cN_none hb (rs := rs) fun r hr => h r (List.mem_cons_of_mem _ hr)
    unfold cN at ih ⊢
    rw [List.filter_cons]
    have : (decide (a < r.1) && decide (r.2.1 ≤ b)) = false := by
      by_cases h1 : a < r.1
      · rw [decide_eq_false (p := r.2.1 ≤ b) (by omega)]
        simp
      · rw [decide_eq_false h1]
        rfl
    rw [this]
    exact ih
def tabR (rs : List Q4) (a b : Nat) : Int := (cN rs (a : Int) (b : Int) : Nat)
theorem eN_le {rs : List Q4} {a b : Int} : eN rs a b ≤ rs.length := List.length_filter_le _ _
theorem cN_le {rs : List Q4} {a b : Int} : cN rs a b ≤ rs.length := List.length_filter_le _ _
section
variable {P : Program} {w : World} {K : PySem.W.Frag} {mg : Str → Option Value} {base : Heap}
def spSpanCounts (K : PySem.W.Frag) : Sp := fun vs H Q _ => ∃ (T : Nat) (p : Addr) (rs : List Q4), vs = [.ref p] ∧ AlmAt K H p T rs ∧ rs.length ≤ 40 ∧ T ≤ 24 ∧ (∀ r ∈ rs, GoodR r) ∧ ∀ tb H', H tb = none → Same H H' → H' tb = some (.dT (tabM (tabR rs) T)) → Q (.ref tb) H'
theorem ok_span_counts (T : Txt w K mg) : Ok P w K mg base CX0 2 "span_counts" ["almanac"] (spSpanCounts K) := by
  refine Ok.def0 (f_span_counts T) (fun _ _ _ _ _ _ us hl => match us, hl with | [_], _ => rfl) sc_span_counts (fun vs H Q E h => ?_) (fun f cdv A outer s H vs Q E hr h => ?_)
  · obtain ⟨TT, p, rs, rfl, _⟩ := h
    rfl
  · obtain ⟨TT, p, rs, rfl, hA, hl, hT, hg, k⟩ := h
    refine ⟨_, (pss_cons (ps_set (i := 1) sc_span_counts.nd rfl (by first | exact Or.inl rfl | exact Or.inr rfl) (pe_okM0 (okm_Almanac_days T) (cl_Almanac T) (pv 0) (hr.mono (by first | decide | omega)) pass0))
      (pss_cons (ps_set (i := 2) sc_span_counts.nd rfl (by first | exact Or.inl rfl | exact Or.inr rfl) (pe_okM0 (okm_Almanac_rains T) (cl_Almanac T) (pv 0) (hr.mono (by first | decide | omega)) pass0))
      (pss_cons (ps_set (i := 3) sc_span_counts.nd rfl (by first | exact Or.inl rfl | exact Or.inr rfl) pe_dnewT)
      (pss_cons (ps_for PassesOwn.never rfl (pi_range1 rfl (n_range T) (pa_cons (pe_op op_add (pv 1) pe_int) pa_nil)) (pg_name (i := 4) sc_span_counts.nd rfl (by first | exact Or.inl rfl | exact Or.inr rfl))
        (pss_cons (ps_set (i := 5) sc_span_counts.nd rfl (by first | exact Or.inl rfl | exact Or.inr rfl) (pe_op op_rep (pe_lst (pa_cons pe_int pa_nil)) (pe_op op_add (pv 1) pe_int)))
      (pss_cons (ps_for PassesOwn.never rfl (pi_listK (K := K) rfl (pv 2)) (pg_name (i := 6) sc_span_counts.nd rfl (by first | exact Or.inl rfl | exact Or.inr rfl))
        (pss_one (ps_if (PW.pt (pw_and (pt_cmpR op_gt (pe_ix (ix_seqK (K := K) rfl) (pv 6) pe_int (fun _ _ => rfl)) (pv 4) (nomark _)) (pw_and1 (pt_cmpR op_le (pe_ix (ix_seqK (K := K) rfl) (pv 6) pe_int (fun _ _ => rfl)) (pv 1) (nomark _))))) (pss_one (ps_augS (pv 5) (pe_ix (ix_seqK (K := K) rfl) (pv 6) pe_int (fun _ _ => rfl)) (get_listK (K := K) rfl) pe_int ip_add set_list)) pss_nil)))
      (pss_cons (ps_set (i := 7) sc_span_counts.nd rfl (by first | exact Or.inl rfl | exact Or.inr rfl) pe_int)
      (pss_one (ps_for PassesOwn.never rfl (pi_range2 rfl (n_range T) (pa_cons (pv 4) (pa_cons (pe_op op_add (pv 1) pe_int) pa_nil))) (pg_name (i := 8) sc_span_counts.nd rfl (by first | exact Or.inl rfl | exact Or.inr rfl))
        (pss_cons (ps_aug (i := 7) sc_span_counts.nd rfl (by first | exact Or.inl rfl | exact Or.inr rfl) (pe_ix (ix_listK (K := K) rfl) (pv 5) (pv 8) (fun _ _ => rfl)) ip_add)
      (pss_one (ps_asg (pv 7) (pg_sub (pv 3) (pe_tup (pa_cons (pv 4) (pa_cons (pv 8) pa_nil))) (set_dict (du hr.units))))))))))))
      (pss_one (ps_ret (pv 3))))))), ?_⟩
    obtain ⟨dx, l0, xs0, h1, h2, h3⟩ := id hA
    refine ⟨_, rfl, p, dx, _, rfl, h1, af_no (by decide +kernel) (by decide +kernel), p, TT, rs, rfl, hA, ?_⟩
    refine ⟨_, rfl, p, dx, _, rfl, h1, af_no (by decide +kernel) (by decide +kernel), p, TT, rs, rfl, hA, fun l xs H1 hl0 s1 hl1 hP => ?_⟩
    have hxl : xs.length ≤ 40 := by rw [Paired.length hP]; exact hl
    refine fun tb htb => ?_
    obtain ⟨s2, g2⟩ := new2 (.dT []) htb
    have htb0 : H tb = none := none_of s1 htb
    refine ⟨_, rfl, _, _, rfl, rfl, _, rfl, by omega, by omega, for_upto (lo := 0) (L := TT + 1) (by omega) (fun i σ H' => ∃ v4 v5 v6 v7 v8, σ = [some (.ref p), some (.int TT), some (.ref l), some (.ref tb), v4, v5, v6, v7, v8] ∧ Same H1 H' ∧ H' tb = some (.dT (tabL (tabR rs) TT i))) ⟨_, _, _, _, _, rfl, s2, g2⟩ ?_ ?_⟩
    · rintro i σ H2 hi ⟨v4, v5, v6, v7, v8, rfl, e2, d2⟩
      have z1 : (0 : Int) + (i : Int) = (i : Int) := by omega
      rw [z1]
      refine gnE ?_
      refine ⟨(by show 1 ≤ sizeLine; decide), fun q hq => ⟨_, rfl, _, _, rfl, rfl, q, _, _, rfl, rfl, upd_same, by omega, by omega, line_of (by show 1 * _ ≤ _; omega), fun en hen => ?_⟩⟩
      obtain ⟨s3, g3⟩ := new2 (.lst [V.int 0]) hq
      obtain ⟨s4, g4⟩ := new2 (.lst (List.replicate ((TT : Int) + 1).toNat [V.int 0]).flatten) hen
      have e0 : ((TT : Int) + 1).toNat = TT + 1 := by omega
      rw [rowV_rep, e0] at s4 g4 ⊢
      have s34 := s3.trans s4
      generalize upd (upd H2 q (.lst [V.int 0])) en (.lst (rowV (TT + 1) fun _ => 0)) = H4 at s4 g4 s34 ⊢
      have hen2 : H2 en = none := none_of s3 hen
      have hen1 : H1 en = none := none_of e2 hen2
      have ne : tb ≠ en := fun z => by rw [z, hen2] at d2; cases d2
      refine ⟨_, rfl, l, rfl, ⟨_, SqL.of ((e2.trans s34) _ _ hl1)⟩, for_list (K := K) (a := l) (xs := xs) (fun m σ H' => ∃ v6 v7 v8, σ = [some (.ref p), some (.int TT), some (.ref l), some (.ref tb), some (.int (i : Int)), some (.ref en), v6, v7, v8] ∧ Same H1 H' ∧ H' tb = some (.dT (tabL (tabR rs) TT i)) ∧ H' en = some (.lst (rowV (TT + 1) fun y => (eN (rs.take m) (i : Int) (y : Int) : Nat)))) ⟨_, _, _, rfl, e2.trans s34, s34 _ _ d2, g4⟩ (fun _ _ _ _ ⟨_, _, _, _, z, _⟩ => SqL.of (z _ _ hl1)) ?_ ?_⟩
      · rintro m x σ H5 hx ⟨v6, v7, v8, rfl, e5, d5, g5⟩
        obtain ⟨r, hr', hq5⟩ := paired_get hP hx
        have hgr := hg r (List.mem_of_getElem? hr')
        unfold GoodR at hgr
        have hq5 := hq5.same e5
        have st : ∀ y : Nat, eN (rs.take (m + 1)) (i : Int) (y : Int) = eN (rs.take m) (i : Int) (y : Int) + if (decide ((i : Int) < r.1) && decide (r.2.1 = (y : Int))) = true then 1 else 0 := fun y => flt_take hr' _ rfl
        refine ⟨_, rfl, hq5.ix (i := 0) rfl ⟨_, rfl, _, _, rfl, rfl, _, rfl, ?_⟩⟩
        cases t1 : decide ((i : Int) < r.1) with
        | false =>
          refine ⟨_, _, _, rfl, e5, d5, ?_⟩
          rw [g5]
          congr 2
          refine rowV_congr fun y _ => ?_
          rw [st, t1]
          rfl
        | true =>
          refine ⟨_, rfl, hq5.ix (i := 1) rfl ⟨_, rfl, _, _, rfl, rfl, _, rfl, ?_⟩⟩
          cases t2 : decide (r.2.1 ≤ (TT : Int)) with
          | false =>
            have t2 := of_decide_eq_false t2
            refine ⟨_, _, _, rfl, e5, d5, ?_⟩
            rw [g5]
            congr 2
            refine rowV_congr fun y hy => ?_
            rw [st, decide_eq_false (p := r.2.1 = (y : Int)) (by omega)]
            simp
          | true =>
            have t2 := of_decide_eq_true t2
            obtain ⟨y0, hy0⟩ : ∃ y0 : Nat, r.2.1 = (y0 : Int) := ⟨r.2.1.toNat, by omega⟩
            refine ⟨_, rfl, _, rfl, hq5.ix (i := 1) rfl ⟨en, _, _, _, rfl, rfl, SqL.of g5, at_of (j := y0) hy0 (rowV_get (by omega)), _, _, rfl, rfl, en, _, _, y0, rfl, rfl, g5, ?_, ?_⟩⟩
            · rw [rowV_len, hy0]
              exact ix_nat (by omega)
            · refine ⟨_, _, _, rfl, same_mut e5 hen1, by rw [upd_ne ne]; exact d5, ?_⟩
              rw [upd_same, rowV_set]
              congr 2
              refine rowV_congr fun y _ => ?_
              rw [st, t1, hy0]
              by_cases c : y = y0
              · rw [if_pos c, c]
                simp
              · rw [if_neg c, decide_eq_false (p := (y0 : Int) = (y : Int)) (by omega)]
                simp
      · rintro σ H5 ⟨v6, v7, v8, rfl, e5, d5, g5⟩
        rw [Paired.length hP, List.take_length] at g5
        refine ⟨_, rfl, _, rfl, _, _, rfl, rfl, _, _, rfl, by omega, for_upto (lo := (i : Int)) (L := TT + 1 - i) (by omega) (fun j σ H' => ∃ v8, σ = [some (.ref p), some (.int TT), some (.ref l), some (.ref tb), some (.int (i : Int)), some (.ref en), v6, some (.int (cN rs (i : Int) ((i : Int) + (j : Int) - 1) : Nat)), v8] ∧ Same H1 H' ∧ H' tb = some (.dT (tabL (tabR rs) TT i ++ rowT (tabR rs) i j)) ∧ H' en = some (.lst (rowV (TT + 1) fun y => (eN rs (i : Int) (y : Int) : Nat)))) ⟨v8, ?_, e5, ?_, g5⟩ ?_ ?_⟩
        · rw [cN_none (by omega) hg]
          rfl
        · rw [d5]
          unfold rowT
          simp
        · rintro j σ H6 hj ⟨v8, rfl, e6, d6, g6⟩
          have z2 : (i : Int) + (j : Int) = ((i + j : Nat) : Int) := by omega
          have cl := cN_le (rs := rs) (a := (i : Int)) (b := (i : Int) + (j : Int) - 1)
          have el := eN_le (rs := rs) (a := (i : Int)) (b := ((i + j : Nat) : Int))
          have cs : (cN rs (i : Int) ((i : Int) + (j : Int) - 1) : Int) + (eN rs (i : Int) ((i + j : Nat) : Int) : Int) = (cN rs (i : Int) ((i + j : Nat) : Int) : Int) := by
            have := cN_step (i : Int) ((i : Int) + (j : Int) - 1) rs
            rw [show (i : Int) + (j : Int) - 1 + 1 = ((i + j : Nat) : Int) by omega] at this
            omega
          rw [z2] at cs
          rw [z2]
          refine gnE ?_
          refine ⟨_, rfl, _, rfl, _, rfl, en, _, _, _, rfl, rfl, SqL.of g6, at_of (j := i + j) rfl (rowV_get (by omega)), _, _, rfl, rfl, ?_⟩
          refine ⟨_, rfl, _, rfl, _, rfl, _, rfl, (by show 2 ≤ sizeLine; decide), fun t ht => ?_⟩
          obtain ⟨s7, g7⟩ := new2 (.tup [.int (i : Int), .int ((i + j : Nat) : Int)]) ht
          have g7' : upd H6 t (.tup [.int (i : Int), .int ((i + j : Nat) : Int)]) t = some (.tup ((key2 i (i + j)).map kV)) := by
            rw [g7]
            rfl
          refine ⟨tb, _, rfl, DPut.t (s7 _ _ d6) g7' (line_lt ?_), ?_⟩
          · have := tabL_len (M := tabR rs) hT i
            rw [List.length_append, rowT_len]
            omega
          · refine ⟨some (.int ((i + j : Nat) : Int)), ?_, same_mut (e6.trans s7) htb, ?_, ?_⟩
            · rw [show (i : Int) + ((j + 1 : Nat) : Int) - 1 = ((i + j : Nat) : Int) by omega, ← cs]
              rfl
            · rw [upd_same, tabL_put, rowT_succ, List.append_assoc, show tabR rs i (i + j) = _ from cs.symm]
            · rw [upd_ne ne.symm]
              exact s7 _ _ g6
        · rintro σ H6 ⟨v8, rfl, e6, d6, g6⟩
          refine ⟨_, _, _, _, _, rfl, e6, ?_⟩
          rw [tabL_succ]
          exact d6
    · rintro σ H2 ⟨v4, v5, v6, v7, v8, rfl, e2, d2⟩
      exact ⟨_, rfl, k tb H2 htb0 (s1.trans e2) d2⟩
end
end K27
end
section
set_option maxRecDepth 100000
set_option maxHeartbeats 4000000
namespace L2
open PySem PySem.Spec PyProof.Rows
/-! ### what an expression comes to, at every heap behind this one -/
def Ev (σ : St) (H0 : Hp) (t : TE) (v : V) : Prop := ∀ (H' : Hp) (R : VK), Same H0 H' → (∀ H2, Same H' H2 → R v H2) → t σ H' R
def EvT (σ : St) (H0 : Hp) (t : TT) (b : Bool) : Prop := ∀ (H' : Hp) (R : Bool → Hp → Prop), Same H0 H' → (∀ H2, Same H' H2 → R b H2) → t σ H' R
variable {σ : St} {H0 : Hp}
theorem Ev.mono {H1 : Hp} {t : TE} {v : V} (h : Ev σ H0 t v) (e : Same H0 H1) : Ev σ H1 t v := fun H' R s k => h H' R (e.trans s) k
theorem Ev.var {i : Nat} {v : V} (h : σ[i]? = some (some v)) : Ev σ H0 (tVar i) v := fun H' R _ k => ⟨v, h, k H' (Same.refl _)⟩
theorem Ev.c {v : V} : Ev σ H0 (tC v) v := fun H' R _ k => k H' (Same.refl _)
theorem Ev.i2 {f : Int → Int → V} {t1 t2 : TE} {x y : Int} (h1 : Ev σ H0 t1 (.int x)) (h2 : Ev σ H0 t2 (.int y)) : Ev σ H0 (tOp (rI0 f) t1 t2) (f x y) := fun H' R s k =>
  h1 H' _ s fun H1 s1 => h2 H1 _ (s.trans s1) fun H2 s2 => ⟨x, y, rfl, rfl, k H2 (s1.trans s2)⟩
theorem Ev.eq {t1 t2 : TE} {x y : Int} (h1 : Ev σ H0 t1 (.int x)) (h2 : Ev σ H0 t2 (.int y)) : Ev σ H0 (tOp rEq t1 t2) (.bl (decide (x = y))) := fun H' R s k =>
  h1 H' _ s fun H1 s1 => h2 H1 _ (s.trans s1) fun H2 s2 => ⟨rfl, by
    have : decide (V.int x = V.int y) = decide (x = y) := by
      rw [decide_eq_decide]
      exact ⟨fun z => V.int.inj z, fun z => by rw [z]⟩
    rw [this]
    exact k H2 (s1.trans s2)⟩
theorem Ev.ne {t1 t2 : TE} {x y : Int} (h1 : Ev σ H0 t1 (.int x)) (h2 : Ev σ H0 t2 (.int y)) : Ev σ H0 (tOp rNe t1 t2) (.bl (!decide (x = y))) := fun H' R s k =>
  h1 H' _ s fun H1 s1 => h2 H1 _ (s.trans s1) fun H2 s2 => ⟨rfl, by
    have : decide (V.int x = V.int y) = decide (x = y) := by
      rw [decide_eq_decide]
      exact ⟨fun z => V.int.inj z, fun z => by rw [z]⟩
    rw [this]
    exact k H2 (s1.trans s2)⟩
theorem tabM_val {M : Nat → Nat → Int} {T a b : Nat} (h1 : a ≤ b) (h2 : b ≤ T) : valV (tabM M T) (key2 a b) = some (.int (M a b)) := by
  refine valV_mem (tabL_pw (M := M) (T := T) (T + 1)) (key2 a b, V.int (M a b)) ?_
  unfold tabL
  refine List.mem_flatMap.mpr ⟨a, List.mem_range.mpr (by omega), ?_⟩
  unfold rowT
  exact List.mem_map.mpr ⟨b - a, List.mem_range.mpr (by omega), by rw [show a + (b - a) = b by omega]⟩
theorem Ev.dget {t1 t2 : TE} {M : Nat → Nat → Int} {T a b i : Nat} {x y : Int} {tb : Addr} (hd : H0 tb = some (.dT (tabM M T))) (hs : σ[i]? = some (some (.ref tb))) (h1 : Ev σ H0 t1 (.int x)) (h2 : Ev σ H0 t2 (.int y)) (hx : x = (a : Int)) (hy : y = (b : Int)) (hab : a ≤ b) (hb : b ≤ T) : Ev σ H0 (tDGet (tVar i) (tTup (tCons t1 (tCons t2 tNil)))) (.int (M a b)) := fun H' R s k => by
  subst hx hy
  refine ⟨_, hs, h1 H' _ s fun H1 s1 => h2 H1 _ (s.trans s1) fun H2 s2 => ⟨(by show 2 ≤ sizeLine; decide), fun p hp => ?_⟩⟩
  obtain ⟨s3, g3⟩ := new2 (.tup [.int (a : Int), .int (b : Int)]) hp
  have g3' : upd H2 p (.tup [.int (a : Int), .int (b : Int)]) p = some (.tup ((key2 a b).map kV)) := by rw [g3]; rfl
  have e := DGet.t (k := key2 a b) (s3 _ _ (s2 _ _ (s1 _ _ (s _ _ hd)))) g3'
  rw [tabM_val hab hb] at e
  exact ⟨tb, _, rfl, e, k _ (s1.trans (s2.trans s3))⟩
theorem EvT.test {t : TE} {b : Bool} (h : Ev σ H0 t (.bl b)) : EvT σ H0 (tTest t) b := fun H' R s k => h H' _ s fun H1 s1 => ⟨b, rfl, k H1 s1⟩
theorem EvT.or {p q : TT} {b1 b2 : Bool} (hp : EvT σ H0 p b1) (hq : b1 = false → EvT σ H0 q b2) : EvT σ H0 (tOr p q) (b1 || b2) := fun H' R s k =>
  hp H' _ s fun H1 s1 => by
    cases b1 with
    | true => exact k H1 s1
    | false => exact hq rfl H1 _ (s.trans s1) fun H2 s2 => k H2 (s1.trans s2)
theorem EvT.and {p q : TT} {b1 b2 : Bool} (hp : EvT σ H0 p b1) (hq : b1 = true → EvT σ H0 q b2) : EvT σ H0 (tAnd p q) (b1 && b2) := fun H' R s k =>
  hp H' _ s fun H1 s1 => by
    cases b1 with
    | false => exact k H1 s1
    | true => exact hq rfl H1 _ (s.trans s1) fun H2 s2 => k H2 (s1.trans s2)
theorem Ev.or {p q : TE} {b1 b2 : Bool} (hp : Ev σ H0 p (.bl b1)) (hq : b1 = false → Ev σ H0 q (.bl b2)) : Ev σ H0 (tOrV p q) (.bl (b1 || b2)) := fun H' R s k =>
  hp H' _ s fun H1 s1 => ⟨b1, rfl, by
    cases b1 with
    | true => exact k H1 s1
    | false => exact hq rfl H1 _ (s.trans s1) fun H2 s2 => k H2 (s1.trans s2)⟩
theorem Ev.run {t : TE} {v : V} {R : VK} (h : Ev σ H0 t v) (k : ∀ H2, Same H0 H2 → R v H2) : t σ H0 R := h H0 R (Same.refl _) k
theorem EvT.run {t : TT} {b : Bool} {R : Bool → Hp → Prop} (h : EvT σ H0 t b) (k : ∀ H2, Same H0 H2 → R b H2) : t σ H0 R := h H0 R (Same.refl _) k
theorem EvT.ifs {c : TT} {t u : TS} {D : Ends} {b : Bool} (h : EvT σ H0 c b) (k : ∀ H2, Same H0 H2 → if b = true then t D σ H2 else u D σ H2) : tIfS c t u D σ H0 := h H0 _ (Same.refl _) k
theorem Ev.asg {t : TE} {i : Nat} {D : Ends} {v : V} (h : Ev σ H0 t v) (k : ∀ H2, Same H0 H2 → D.nx (σ.set i (some v)) H2) : tAsg t (gName i) D σ H0 := h H0 _ (Same.refl _) k
theorem Ev.seq {t : TE} {i : Nat} {u : TS} {D : Ends} {v : V} (h : Ev σ H0 t v) (k : ∀ H2, Same H0 H2 → u D (σ.set i (some v)) H2) : tSeq (tAsg t (gName i)) u D σ H0 := h H0 _ (Same.refl _) k
theorem EvT.b {t : TE} {b : Bool} (h : Ev σ H0 t (.bl b)) : EvT σ H0 (tB t) b := fun H' R s k => h H' _ s fun H1 s1 => ⟨b, rfl, k H1 s1⟩
section
variable {K : PySem.W.Frag} {a D : Addr} {xs : List V} {g : TG} {tt : TT} {te : TE} {vs : List Nat} {σ : St} {H1 : Hp} {Q : Hp → Prop}
theorem lc_accT (hD : H1 D = none) (hS : SqT K H1 a xs) (hz : xs.length < 100000) (Acc : Nat → List V → Hp → Prop) (h0 : ∀ H', Same H1 H' → Acc 0 [] H')
    (hs : ∀ i x acc H' (N : V → Hp → Prop) (N0 : Hp → Prop), xs[i]? = some x → Same H1 H' → H' D = some (.lst acc) → Acc i acc H' →
      (∀ y H4, Same H' H4 → (∀ H5, But D H4 H5 → H5 D = some (.lst (acc ++ [y])) → Acc (i + 1) (acc ++ [y]) H5) → N y H4) → (∀ H3, Same H' H3 → Acc (i + 1) acc H3 → N0 H3) →
      g x (wipe σ vs) H' fun σ2 H2 => wipe σ2 vs = wipe σ vs ∧ tt σ2 H2 fun b H3 => if b = true then te σ2 H3 N else N0 H3)
    (hd : ∀ acc H', Same H1 H' → H' D = some (.lst acc) → acc.length ≤ xs.length → Acc xs.length acc H' → Q H') :
    ∃ W : Nat → Nat → Hp → Prop, (∃ m, W 0 m (upd H1 D (.lst []))) ∧ ∀ i m H, W i m H →
      ((Itt K a).stop i H ∧ Q H) ∨ ((Itt K a).go i H ∧ ∃ Nx : Hp → Prop, (∀ H', Nx H' → ∃ m', m' < m ∧ W (i + 1) m' H') ∧ ∀ x H', (Itt K a).yld i H x H' → g x (wipe σ vs) H' fun σ2 H2 => wipe σ2 vs = wipe σ vs ∧ tt σ2 H2 fun b H3 =>
        if b = true then te σ2 H3 fun y H4 => ∃ acc, H4 D = some (.lst acc) ∧ acc.length < sizeLine ∧ Nx (upd H4 D (.lst (acc ++ [y]))) else Nx H3) := by
  refine lc_tup (K := K) (a := a) (xs := xs) (fun i H' => Same H1 H' ∧ ∃ acc, H' D = some (.lst acc) ∧ acc.length ≤ i ∧ Acc i acc H') ⟨same_new hD, [], upd_same, Nat.le_refl _, h0 _ (same_new hD)⟩ (fun i H' _ h => h.1.tup hS) ?_ ?_
  · rintro i x H' hx ⟨e, acc, hacc, hl, ha⟩
    have hi : i < xs.length := (List.getElem?_eq_some_iff.mp hx).1
    refine hs i x acc H' _ _ hx e hacc ha (fun y H4 s4 a4 => ?_) (fun H3 s3 a3 => ?_)
    · exact ⟨acc, s4 _ _ hacc, line_lt (by omega), same_mut (e.trans s4) hD, acc ++ [y], upd_same, by rw [List.length_append]; exact Nat.succ_le_succ hl, a4 _ (fun b o hb n => by rw [upd_ne n]; exact hb) upd_same⟩
    · exact ⟨e.trans s3, acc, s3 _ _ hacc, Nat.le_succ_of_le hl, a3⟩
  · rintro H' ⟨e, acc, hacc, hl, ha⟩
    exact hd acc H' e hacc hl ha
end
end L2
end
section
set_option maxRecDepth 100000
set_option maxHeartbeats 4000000
namespace K27
open PySem PySem.Spec PyProof.Rows L2
/-- whether a stretch is a key one, by a table -/
def keyB (M : Nat → Nat → Int) (T : Nat) (c : Int × Int) : Bool := (decide (c.1 = 0) || decide (M c.1.toNat c.2.toNat < M (c.1.toNat - 1) c.2.toNat)) && (decide (c.2 = (T : Int)) || decide (M c.1.toNat c.2.toNat < M c.1.toNat (c.2.toNat + 1)))
def keysL (M : Nat → Nat → Int) (T : Nat) : List (Int × Int) := (strL T).filter (keyB M T)
theorem keyB_nat {M : Nat → Nat → Int} {T a b : Nat} : keyB M T ((a : Int), (b : Int)) = ((decide ((a : Int) = 0) || decide (M a b < M (a - 1) b)) && (decide ((b : Int) = (T : Int)) || decide (M a b < M a (b + 1)))) := rfl
theorem keysL_le {M : Nat → Nat → Int} {T : Nat} (hT : T ≤ 24) : (keysL M T).length ≤ 576 := by
  have := List.length_filter_le (keyB M T) (strL T)
  have := strL_len T hT
  unfold keysL
  omega
theorem flt_take2 {α : Type} {p : α → Bool} {l : List α} {i : Nat} {c : α} (h : l[i]? = some c) (b : Bool) (hb : p c = b) : (l.take (i + 1)).filter p = (l.take i).filter p ++ (if b then [c] else []) := by
  obtain ⟨lt, e⟩ := List.getElem?_eq_some_iff.mp h
  rw [← List.take_append_getElem lt, List.filter_append, e, List.filter_cons, hb]
  cases b <;> rfl
section
variable {P : Program} {w : World} {K : PySem.W.Frag} {mg : Str → Option Value} {base : Heap}
def spKeyList : Sp := fun vs H Q _ => ∃ (T : Nat) (tb : Addr) (M : Nat → Nat → Int), vs = [.int T, .ref tb] ∧ H tb = some (.dT (tabM M T)) ∧ T ≤ 24 ∧ ∀ p ys H', H p = none → Same H H' → H' p = some (.lst ys) → Paired (PairT H') ys (keysL M T) → Q (.ref p) H'
theorem ok__law_key_list (T : Txt w K mg) : Ok P w K mg base CX0 2 "_law_key_list" ["days", "table"] spKeyList := by
  refine Ok.def0 (f__law_key_list T) (fun _ _ _ _ _ _ us hl => match us, hl with | [_, _], _ => rfl) sc__law_key_list (fun vs H Q E h => ?_) (fun f cdv A outer s H vs Q E hr h => ?_)
  · obtain ⟨TT, tb, M, rfl, _⟩ := h
    rfl
  · obtain ⟨TT, tb, M, rfl, h2, hT, k⟩ := h
    refine ⟨_, (pss_cons (ps_set (i := 2) sc__law_key_list.nd rfl (by first | exact Or.inl rfl | exact Or.inr rfl) (pe_lst pa_nil))
      (pss_cons (ps_for PassesOwn.never rfl (pi_listK (K := K) rfl (pe_ok (ok__law_stretches T) (hr.mono (by first | decide | omega)) rfl pass0 (pa_cons (pv 0) pa_nil))) (pg_tupK (K := K) (n := 2) rfl rfl (pgs_cons (pg_name (i := 3) sc__law_key_list.nd rfl (by first | exact Or.inl rfl | exact Or.inr rfl)) (pgs_cons (pg_name (i := 4) sc__law_key_list.nd rfl (by first | exact Or.inl rfl | exact Or.inr rfl)) pgs_nil)))
        (pss_one (ps_if (PW.pt (pw_and (PW.pt (pw_or (pt_cmpR op_eq (pv 3) pe_int (nomark _)) (pw_or1 (pt_cmpR op_gt (pe_dget (du hr.units) (pv 1) (pe_tup (pa_cons (pe_op op_sub (pv 3) pe_int) (pa_cons (pv 4) pa_nil))) (fun _ _ => rfl)) (pe_dget (du hr.units) (pv 1) (pe_tup (pa_cons (pv 3) (pa_cons (pv 4) pa_nil))) (fun _ _ => rfl)) (nomark _))))) (pw_and1 (PW.pt (pw_or (pt_cmpR op_eq (pv 4) (pv 0) (nomark _)) (pw_or1 (pt_cmpR op_gt (pe_dget (du hr.units) (pv 1) (pe_tup (pa_cons (pv 3) (pa_cons (pe_op op_add (pv 4) pe_int) pa_nil))) (fun _ _ => rfl)) (pe_dget (du hr.units) (pv 1) (pe_tup (pa_cons (pv 3) (pa_cons (pv 4) pa_nil))) (fun _ _ => rfl)) (nomark _)))))))) (pss_one (ps_expr (pe_bm PySem.F.plainAttrs_list PySem.F.slot_list_append PySem.F.type_list_append mt_append (pv 2) (pa_cons (pe_tup (pa_cons (pv 3) (pa_cons (pv 4) pa_nil))) pa_nil)))) pss_nil)))
      (pss_one (ps_ret (pv 2))))), ?_⟩
    refine ⟨(by show 0 ≤ sizeLine; decide), fun D hD => ?_⟩
    obtain ⟨s1, g1⟩ := new2 (.lst []) hD
    refine ⟨_, rfl, TT, rfl, hT, fun l xs H1 s2 hl0 hl1 hP => ?_⟩
    have hxl : xs.length ≤ 576 := by
      rw [Paired.length hP]
      have := strL_len TT hT
      omega
    have nlD : l ≠ D := fun z => by rw [z, upd_same] at hl0; cases hl0
    refine ⟨l, rfl, ⟨_, SqL.of hl1⟩, for_list (K := K) (a := l) (xs := xs) (fun m σ H' => ∃ v3 v4 ys, σ = [some (.int TT), some (.ref tb), some (.ref D), v3, v4] ∧ Same H H' ∧ H' l = some (.lst xs) ∧ Paired (PairT H') xs (strL TT) ∧ H' D = some (.lst ys) ∧ Paired (PairT H') ys (((strL TT).take m).filter (keyB M TT))) ⟨_, _, [], rfl, s1.trans s2, hl1, hP, s2 _ _ g1, .nil⟩ (fun _ _ _ _ h => ?_) ?_ ?_⟩
    · obtain ⟨_, _, _, _, _, z, _⟩ := h
      exact SqL.of z
    · rintro m x σ H2 hx ⟨v3, v4, ys, rfl, e2, hl2, hP2, hD2, hK2⟩
      obtain ⟨c, hc, hr⟩ := paired_get hP2 hx
      obtain ⟨a, b, h1, h2', rfl⟩ := strL_mem (List.mem_of_getElem? hc)
      refine hr.un rfl ?_
      have hd2 := e2 _ _ h2
      refine EvT.ifs (b := keyB M TT ((a : Int), (b : Int))) ?_ fun H3 s3 => ?_
      · rw [keyB_nat]
        refine EvT.and (EvT.or (EvT.test (Ev.eq (Ev.var rfl) Ev.c)) fun z => EvT.test (Ev.i2 (Ev.dget (a := a - 1) (b := b) hd2 rfl (Ev.i2 (Ev.var rfl) Ev.c) (Ev.var rfl) ?_ rfl (by omega) h2') (Ev.dget (a := a) (b := b) hd2 rfl (Ev.var rfl) (Ev.var rfl) rfl rfl (by omega) h2')))
          fun _ => EvT.or (EvT.test (Ev.eq (Ev.var rfl) (Ev.var rfl))) fun z => EvT.test (Ev.i2 (Ev.dget (a := a) (b := b + 1) hd2 rfl (Ev.var rfl) (Ev.i2 (Ev.var rfl) Ev.c) rfl ?_ (by omega) ?_) (Ev.dget (a := a) (b := b) hd2 rfl (Ev.var rfl) (Ev.var rfl) rfl rfl (by omega) h2'))
        · have := of_decide_eq_false z
          omega
        · omega
        · have := of_decide_eq_false z
          omega
      · have hK3 := Paired.mapP hK2 fun _ _ z => z.same s3
        have hP3 := Paired.mapP hP2 fun _ _ z => z.same s3
        have st := flt_take2 (p := keyB M TT) hc _ rfl
        cases q : keyB M TT ((a : Int), (b : Int)) with
        | false =>
          rw [q] at st
          have st : ((strL TT).take (m + 1)).filter (keyB M TT) = ((strL TT).take m).filter (keyB M TT) := st.trans (List.append_nil _)
          refine ⟨_, _, ys, rfl, e2.trans s3, s3 _ _ hl2, hP3, s3 _ _ hD2, ?_⟩
          rw [st]
          exact hK3
        | true =>
          rw [q] at st
          have st : ((strL TT).take (m + 1)).filter (keyB M TT) = ((strL TT).take m).filter (keyB M TT) ++ [((a : Int), (b : Int))] := st
          refine ⟨_, rfl, .inl ⟨rfl, _, SqL.of (s3 _ _ hD2)⟩, _, rfl, _, rfl, (by show 2 ≤ sizeLine; decide), fun t ht => ?_⟩
          obtain ⟨s4, g4⟩ := new2 (.tup [.int (a : Int), .int (b : Int)]) ht
          have hD4 := s4 _ _ (s3 _ _ hD2)
          have hyl : ys.length ≤ 576 := by
            rw [Paired.length hK2]
            have := List.length_filter_le (keyB M TT) ((strL TT).take m)
            have := List.length_take_le m (strL TT)
            have := strL_len TT hT
            have : ((strL TT).take m).length ≤ (strL TT).length := by rw [List.length_take]; omega
            omega
          refine ⟨D, ys, _, rfl, rfl, hD4, line_lt (by omega), ?_⟩
          refine ⟨_, _, ys ++ [.ref t], rfl, same_mut ((e2.trans s3).trans s4) hD, ?_, ?_, upd_same, ?_⟩
          · rw [upd_ne nlD]
            exact s4 _ _ (s3 _ _ hl2)
          · exact Paired.mapP hP3 fun _ _ z => (z.same s4).mut hD4
          · rw [st]
            exact Paired.snoc (Paired.mapP hK3 fun _ _ z => (z.same s4).mut hD4) ((show PairT _ (.ref t) ((a : Int), (b : Int)) from ⟨t, rfl, g4⟩).mut hD4)
    · rintro σ H2 ⟨v3, v4, ys, rfl, e2, hl2, hP2, hD2, hK2⟩
      rw [Paired.length hP, List.take_length] at hK2
      exact ⟨_, rfl, k D ys H2 hD e2 hD2 hK2⟩
end
end K27
end
section
set_option maxRecDepth 100000
set_option maxHeartbeats 4000000
namespace K27
open PySem PySem.Spec PyProof.Rows L2
theorem ev_rain {K : PySem.W.Frag} {σ : L2.St} {H0 : Hp} {l : Addr} {xs : List V} {x : V} {r : Q4} {i j n k : Nat} {v : V} (hi : σ[i]? = some (some (.ref l))) (hj : σ[j]? = some (some (.int (n : Int)))) (hl : H0 l = some (.lst xs)) (hx : xs[n]? = some x) (hq : QuadT H0 x r) (hv : (q4V r)[k]? = some v) :
    Ev σ H0 (tOp (rIx K) (tOp (rIxL K) (tVar i) (tVar j)) (tC (.int (k : Nat)))) v := fun H' R s q =>
  ⟨_, hi, _, hj, l, xs, _, x, rfl, rfl, SqL.of (s _ _ hl), at_of rfl hx, (hq.same s).ix hv (q H' (Same.refl _))⟩
section
variable {P : Program} {w : World} {K : PySem.W.Frag} {mg : Str → Option Value} {base : Heap}
def spOneCan (K : PySem.W.Frag) : Sp := fun vs H Q E => ∃ (p : Addr) (d : Int) (rs : List Q4), vs = [.ref p] ∧ AlmAt K H p d rs ∧ rs.length ≤ 40 ∧ ((∀ r ∈ rs, r.2.2.1 = 1 ∧ r.2.2.2 = 1) → ∀ H', Same H H' → Q .non H') ∧ ∀ (n : Nat) (r : Q4), rs[n]? = some r → (∀ m, m < n → ∀ r, rs[m]? = some r → r.2.2.1 = 1 ∧ r.2.2.2 = 1) → ¬ (r.2.2.1 = 1 ∧ r.2.2.2 = 1) → Rz E H (cSk K) "row" (.int ((n : Int) + 1))
theorem ok_check_one_can (T : Txt w K mg) : Ok P w K mg base (L2.CX P w) 6 "check_one_can" ["almanac"] (spOneCan K) := by
  refine Ok.defX (f_check_one_can T) (fun _ _ _ _ _ _ us hl => match us, hl with | [_], _ => rfl) sc_check_one_can (fun vs H Q E h => ?_) (fun f cdv A outer s H vs Q E hr h tk => ?_)
  · obtain ⟨p, d, rs, rfl, _⟩ := h
    rfl
  · obtain ⟨p, d, rs, rfl, hA, hl, k, kb⟩ := h
    refine ⟨_, (pss_cons (ps_set (i := 1) sc_check_one_can.nd rfl (by first | exact Or.inl rfl | exact Or.inr rfl) (pe_okM0 (okm_Almanac_rains T) (cl_Almanac T) (pv 0) (hr.mono (by first | decide | omega)) pass0))
      (pss_one (ps_for (passes_of rfl) rfl (pi_range1 rfl (n_range T) (pa_cons (pe_callB (len_seqK (K := K) rfl) rfl (n_len T) (by decide +kernel) (pa_cons (pv 1) pa_nil)) pa_nil)) (pg_name (i := 2) sc_check_one_can.nd rfl (by first | exact Or.inl rfl | exact Or.inr rfl))
        (pss_one (ps_if (PW.pt (pw_or (pt_cmpR op_ne (pe_ix (ix_seqK (K := K) rfl) (pe_ix (ix_listK (K := K) rfl) (pv 1) (pv 2) (fun _ _ => rfl)) pe_int (fun _ _ => rfl)) pe_int (nomark _)) (pw_or1 (pt_cmpR op_ne (pe_ix (ix_seqK (K := K) rfl) (pe_ix (ix_listK (K := K) rfl) (pv 1) (pv 2) (fun _ _ => rfl)) pe_int (fun _ _ => rfl)) pe_int (nomark _))))) (pss_one (ps_raise rfl tk (pmk_x (x_BadSky T) (hr.mono (by first | decide | omega)) rfl (pa_cons (pe_op op_add (pv 2) pe_int) pa_nil)))) pss_nil))))), ?_⟩
    obtain ⟨dx, l0, xs0, h1, h2, h3⟩ := id hA
    refine ⟨_, rfl, p, dx, _, rfl, h1, af_no (by decide +kernel) (by decide +kernel), p, d, rs, rfl, hA, fun l xs H1 hl0 s1 hl1 hP => ?_⟩
    have hxl : xs.length = rs.length := Paired.length hP
    refine ⟨_, rfl, _, _, rfl, .inl (SqL.of hl1), _, rfl, by omega, by omega, for_upto (lo := 0) (L := rs.length) (by rw [hxl]; omega) (fun m σ H' => ∃ v2, σ = [some (.ref p), some (.ref l), v2] ∧ Same H1 H' ∧ ∀ q, q < m → ∀ r, rs[q]? = some r → r.2.2.1 = 1 ∧ r.2.2.2 = 1) ⟨_, rfl, Same.refl _, fun q h => by omega⟩ ?_ ?_⟩
    · rintro m σ H2 hm ⟨v2, rfl, e2, hlt⟩
      have em : (0 : Int) + (m : Int) = (m : Int) := by omega
      rw [em]
      refine gnE ?_
      obtain ⟨r, hr4⟩ : ∃ r, rs[m]? = some r := ⟨rs[m], List.getElem?_eq_getElem hm⟩
      obtain ⟨y, hy⟩ : ∃ y, xs[m]? = some y := ⟨xs[m]'(by omega), List.getElem?_eq_getElem _⟩
      obtain ⟨r', hr', hq⟩ := paired_get hP hy
      rw [hr4] at hr'
      cases hr'
      have hq2 := hq.same e2
      refine EvT.ifs (b := !decide (r.2.2.1 = 1) || !decide (r.2.2.2 = 1)) (EvT.or (EvT.test (Ev.ne (ev_rain (k := 2) rfl rfl (e2 _ _ hl1) hy hq2 rfl) Ev.c)) fun _ => EvT.test (Ev.ne (ev_rain (k := 3) rfl rfl (e2 _ _ hl1) hy hq2 rfl) Ev.c)) fun H3 s3 => ?_
      by_cases c : r.2.2.1 = 1 ∧ r.2.2.2 = 1
      · rw [decide_eq_true c.1, decide_eq_true c.2]
        refine ⟨_, rfl, e2.trans s3, fun q hq r' hr' => ?_⟩
        by_cases eq : q = m
        · rw [eq, hr4] at hr'
          cases hr'
          exact c
        · exact hlt q (by omega) r' hr'
      · have : (!decide (r.2.2.1 = 1) || !decide (r.2.2.2 = 1)) = true := by
          by_cases c1 : r.2.2.1 = 1
          · rw [decide_eq_false (p := r.2.2.2 = 1) fun z => c ⟨c1, z⟩]
            simp
          · rw [decide_eq_false c1]
            rfl
        rw [this]
        exact ⟨_, rfl, _, _, rfl, rfl, mko ((kb m r hr4 hlt c).at (s1.trans (e2.trans s3)))⟩
    · rintro σ H2 ⟨v2, rfl, e2, hlt⟩
      refine k (fun r hr => ?_) _ (s1.trans e2)
      obtain ⟨q, hq⟩ := List.getElem?_of_mem hr
      exact hlt q (List.getElem?_eq_some_iff.mp hq).1 r hq
end
end K27
end
section
set_option maxRecDepth 100000
set_option maxHeartbeats 4000000
namespace K27
open PySem PySem.Spec PyProof.Rows L2
def OneCan (rs : List Q4) : Prop := ∀ r ∈ rs, r.2.2.1 = 1 ∧ r.2.2.2 = 1
def BadCan (rs : List Q4) (n : Nat) : Prop := ∃ r, rs[n]? = some r ∧ (∀ m, m < n → ∀ r, rs[m]? = some r → r.2.2.1 = 1 ∧ r.2.2.2 = 1) ∧ ¬ (r.2.2.1 = 1 ∧ r.2.2.2 = 1)
section
variable {P : Program} {w : World} {K : PySem.W.Frag} {mg : Str → Option Value} {base : Heap}
def spKeyStr (K : PySem.W.Frag) : Sp := fun vs H Q E => ∃ (T : Nat) (p : Addr) (rs : List Q4), vs = [.ref p] ∧ AlmAt K H p T rs ∧ rs.length ≤ 40 ∧ T ≤ 24 ∧ (∀ r ∈ rs, GoodR r) ∧ (OneCan rs → ∀ q ys H', H q = none → Same H H' → H' q = some (.lst ys) → Paired (PairT H') ys (keysL (tabR rs) T) → Q (.ref q) H') ∧ (∀ n, BadCan rs n → Rz E H (cSk K) "row" (.int ((n : Int) + 1)))
theorem ok_key_stretches (T : Txt w K mg) : Ok P w K mg base (L2.CX P w) 7 "key_stretches" ["almanac"] (spKeyStr K) := by
  refine Ok.defX (f_key_stretches T) (fun _ _ _ _ _ _ us hl => match us, hl with | [_], _ => rfl) sc_key_stretches (fun vs H Q E h => ?_) (fun f cdv A outer s H vs Q E hr h tk => ?_)
  · obtain ⟨TT, p, rs, rfl, _⟩ := h
    rfl
  · obtain ⟨TT, p, rs, rfl, hA, hl, hT, hg, k, kb⟩ := h
    refine ⟨_, (pss_cons (ps_expr (pe_okS (ok_check_one_can T) (hr.mono (by first | decide | omega)) rfl (fun σ => passAt tk σ) (pa_cons (pv 0) pa_nil)))
      (pss_cons (ps_set (i := 1) sc_key_stretches.nd rfl (by first | exact Or.inl rfl | exact Or.inr rfl) (pe_okM0 (okm_Almanac_days T) (cl_Almanac T) (pv 0) (hr.mono (by first | decide | omega)) pass0))
      (pss_cons (ps_set (i := 2) sc_key_stretches.nd rfl (by first | exact Or.inl rfl | exact Or.inr rfl) (pe_ok (ok_span_counts T) (hr.mono (by first | decide | omega)) rfl pass0 (pa_cons (pv 0) pa_nil)))
      (pss_cons (ps_set (i := 3) sc_key_stretches.nd rfl (by first | exact Or.inl rfl | exact Or.inr rfl) (pe_lst pa_nil))
      (pss_cons (ps_for (passes_of rfl) rfl (pi_listK (K := K) rfl (pe_ok (ok_all_stretches T) (hr.mono (by first | decide | omega)) rfl pass0 (pa_cons (pv 1) pa_nil))) (pg_tupK (K := K) (n := 2) rfl rfl (pgs_cons (pg_name (i := 4) sc_key_stretches.nd rfl (by first | exact Or.inl rfl | exact Or.inr rfl)) (pgs_cons (pg_name (i := 5) sc_key_stretches.nd rfl (by first | exact Or.inl rfl | exact Or.inr rfl)) pgs_nil)))
        (pss_cons (ps_set (i := 6) sc_key_stretches.nd rfl (by first | exact Or.inl rfl | exact Or.inr rfl) (pe_or (pe_cmpR op_eq (pv 4) pe_int (nomark _)) (pe_one (pe_cmpR op_gt (pe_dget (du hr.units) (pv 2) (pe_tup (pa_cons (pe_op op_sub (pv 4) pe_int) (pa_cons (pv 5) pa_nil))) (fun _ _ => rfl)) (pe_dget (du hr.units) (pv 2) (pe_tup (pa_cons (pv 4) (pa_cons (pv 5) pa_nil))) (fun _ _ => rfl)) (nomark _)))))
      (pss_cons (ps_set (i := 7) sc_key_stretches.nd rfl (by first | exact Or.inl rfl | exact Or.inr rfl) (pe_or (pe_cmpR op_eq (pv 5) (pv 1) (nomark _)) (pe_one (pe_cmpR op_gt (pe_dget (du hr.units) (pv 2) (pe_tup (pa_cons (pv 4) (pa_cons (pe_op op_add (pv 5) pe_int) pa_nil))) (fun _ _ => rfl)) (pe_dget (du hr.units) (pv 2) (pe_tup (pa_cons (pv 4) (pa_cons (pv 5) pa_nil))) (fun _ _ => rfl)) (nomark _)))))
      (pss_one (ps_if (PW.pt (pw_and (pt_val (pv 6)) (pw_and1 (pt_val (pv 7))))) (pss_one (ps_expr (pe_bm PySem.F.plainAttrs_list PySem.F.slot_list_append PySem.F.type_list_append mt_append (pv 3) (pa_cons (pe_tup (pa_cons (pv 4) (pa_cons (pv 5) pa_nil))) pa_nil)))) pss_nil)))))
      (pss_one (ps_ret (pv 3)))))))), ?_⟩
    refine ⟨_, rfl, p, TT, rs, rfl, hA, hl, fun hone H1 s1 => ?_, fun n r h1 h2 h3 => kb n ⟨r, h1, h2, h3⟩⟩
    have hA1 := hA.same s1
    obtain ⟨dx, l0, xs0, i1, i2, i3⟩ := id hA1
    refine ⟨_, rfl, p, dx, _, rfl, i1, af_no (by decide +kernel) (by decide +kernel), p, TT, rs, rfl, hA1, ?_⟩
    refine ⟨_, rfl, TT, p, rs, rfl, hA1, hl, hT, hg, fun tb H2 htb s2 d2 => ?_⟩
    have e2 := s1.trans s2
    refine ⟨(by show 0 ≤ sizeLine; decide), fun D hD => ?_⟩
    obtain ⟨s3, g3⟩ := new2 (.lst []) hD
    have hD0 : H D = none := none_of e2 hD
    refine ⟨_, rfl, TT, rfl, hT, fun l xs H3 s4 hl0 hl1 hP => ?_⟩
    have d3 : H3 tb = some (.dT (tabM (tabR rs) TT)) := s4 _ _ (s3 _ _ d2)
    have hxl : xs.length ≤ 576 := by
      rw [Paired.length hP]
      have := strL_len TT hT
      omega
    have nlD : l ≠ D := fun z => by rw [z, upd_same] at hl0; cases hl0
    have ntD : tb ≠ D := fun z => by rw [z, hD] at d2; cases d2
    refine ⟨l, rfl, ⟨_, SqL.of hl1⟩, for_list (K := K) (a := l) (xs := xs) (fun m σ H' => ∃ v4 v5 v6 v7 ys, σ = [some (.ref p), some (.int TT), some (.ref tb), some (.ref D), v4, v5, v6, v7] ∧ Same H H' ∧ H' tb = some (.dT (tabM (tabR rs) TT)) ∧ H' l = some (.lst xs) ∧ Paired (PairT H') xs (strL TT) ∧ H' D = some (.lst ys) ∧ Paired (PairT H') ys (((strL TT).take m).filter (keyB (tabR rs) TT))) ⟨_, _, _, _, [], rfl, e2.trans (s3.trans s4), d3, hl1, hP, s4 _ _ g3, .nil⟩ (fun _ _ _ _ h => ?_) ?_ ?_⟩
    · obtain ⟨_, _, _, _, _, _, _, _, z, _⟩ := h
      exact SqL.of z
    · rintro m x σ H4 hx ⟨v4, v5, v6, v7, ys, rfl, e4, d4, hl4, hP4, hD4, hK4⟩
      obtain ⟨c, hc, hr⟩ := paired_get hP4 hx
      obtain ⟨a, b, h1, h2', rfl⟩ := strL_mem (List.mem_of_getElem? hc)
      refine hr.un rfl ?_
      refine Ev.seq (v := .bl (decide ((a : Int) = 0) || decide (tabR rs a b < tabR rs (a - 1) b))) (Ev.or (Ev.eq (Ev.var rfl) Ev.c) fun z => Ev.i2 (Ev.dget (a := a - 1) (b := b) d4 rfl (Ev.i2 (Ev.var rfl) Ev.c) (Ev.var rfl) ?_ rfl (by omega) h2') (Ev.dget (a := a) (b := b) d4 rfl (Ev.var rfl) (Ev.var rfl) rfl rfl (by omega) h2')) fun H5 s5 => ?_
      · have := of_decide_eq_false z
        omega
      have d5 := s5 _ _ d4
      refine Ev.seq (v := .bl (decide ((b : Int) = (TT : Int)) || decide (tabR rs a b < tabR rs a (b + 1)))) (Ev.or (Ev.eq (Ev.var rfl) (Ev.var rfl)) fun z => Ev.i2 (Ev.dget (a := a) (b := b + 1) d5 rfl (Ev.var rfl) (Ev.i2 (Ev.var rfl) Ev.c) rfl ?_ (by omega) ?_) (Ev.dget (a := a) (b := b) d5 rfl (Ev.var rfl) (Ev.var rfl) rfl rfl (by omega) h2')) fun H6 s6 => ?_
      · omega
      · have := of_decide_eq_false z
        omega
      refine EvT.ifs (b := keyB (tabR rs) TT ((a : Int), (b : Int))) ?_ fun H7 s7 => ?_
      · rw [keyB_nat]
        exact EvT.and (EvT.b (Ev.var rfl)) fun _ => EvT.b (Ev.var rfl)
      · have s47 := s5.trans (s6.trans s7)
        have hK3 := Paired.mapP hK4 fun _ _ z => z.same s47
        have hP3 := Paired.mapP hP4 fun _ _ z => z.same s47
        have st := flt_take2 (p := keyB (tabR rs) TT) hc _ rfl
        cases q : keyB (tabR rs) TT ((a : Int), (b : Int)) with
        | false =>
          rw [q] at st
          have st : ((strL TT).take (m + 1)).filter (keyB (tabR rs) TT) = ((strL TT).take m).filter (keyB (tabR rs) TT) := st.trans (List.append_nil _)
          refine ⟨_, _, _, _, ys, rfl, e4.trans s47, s47 _ _ d4, s47 _ _ hl4, hP3, s47 _ _ hD4, ?_⟩
          rw [st]
          exact hK3
        | true =>
          rw [q] at st
          have st : ((strL TT).take (m + 1)).filter (keyB (tabR rs) TT) = ((strL TT).take m).filter (keyB (tabR rs) TT) ++ [((a : Int), (b : Int))] := st
          refine ⟨_, rfl, .inl ⟨rfl, _, SqL.of (s47 _ _ hD4)⟩, _, rfl, _, rfl, (by show 2 ≤ sizeLine; decide), fun t ht => ?_⟩
          obtain ⟨s8, g8⟩ := new2 (.tup [.int (a : Int), .int (b : Int)]) ht
          have hD8 := s8 _ _ (s47 _ _ hD4)
          have hyl : ys.length ≤ 576 := by
            rw [Paired.length hK4]
            have := List.length_filter_le (keyB (tabR rs) TT) ((strL TT).take m)
            have := strL_len TT hT
            have : ((strL TT).take m).length ≤ (strL TT).length := by rw [List.length_take]; omega
            omega
          refine ⟨D, ys, _, rfl, rfl, hD8, line_lt (by omega), ?_⟩
          refine ⟨_, _, _, _, ys ++ [.ref t], rfl, same_mut ((e4.trans s47).trans s8) hD0, ?_, ?_, ?_, upd_same, ?_⟩
          · rw [upd_ne ntD]
            exact s8 _ _ (s47 _ _ d4)
          · rw [upd_ne nlD]
            exact s8 _ _ (s47 _ _ hl4)
          · exact Paired.mapP hP3 fun _ _ z => (z.same s8).mut hD8
          · rw [st]
            exact Paired.snoc (Paired.mapP hK3 fun _ _ z => (z.same s8).mut hD8) ((show PairT _ (.ref t) ((a : Int), (b : Int)) from ⟨t, rfl, g8⟩).mut hD8)
    · rintro σ H4 ⟨v4, v5, v6, v7, ys, rfl, e4, d4, hl4, hP4, hD4, hK4⟩
      rw [Paired.length hP, List.take_length] at hK4
      exact ⟨_, rfl, k hone D ys H4 hD0 e4 hD4 hK4⟩
end
end K27
end
section
set_option maxRecDepth 100000
set_option maxHeartbeats 4000000
namespace K27
open PySem PySem.Spec PyProof.Rows L2
def rsum : List (Int × Int) → Int
  | [] => 0
  | c :: r => c.2 + rsum r
def wsum : List (List (Int × Int)) → Int
  | [] => 0
  | c :: r => rsum c + wsum r
theorem rsum_app {l m : List (Int × Int)} : rsum (l ++ m) = rsum l + rsum m := by
  induction l with
  | nil => show _ = 0 + _; rw [Int.zero_add]; rfl
  | cons c l ih =>
    show c.2 + rsum (l ++ m) = (c.2 + rsum l) + rsum m
    rw [ih, Int.add_assoc]
theorem wsum_app {l m : List (List (Int × Int))} : wsum (l ++ m) = wsum l + wsum m := by
  induction l with
  | nil => show _ = 0 + _; rw [Int.zero_add]; rfl
  | cons c l ih =>
    show rsum c + wsum (l ++ m) = (rsum c + wsum l) + wsum m
    rw [ih, Int.add_assoc]
theorem rsum_take {l : List (Int × Int)} {i : Nat} {c : Int × Int} (h : l[i]? = some c) : rsum (l.take (i + 1)) = rsum (l.take i) + c.2 := by
  obtain ⟨lt, e⟩ := List.getElem?_eq_some_iff.mp h
  rw [← List.take_append_getElem lt, rsum_app, e]
  show _ + (c.2 + 0) = _
  rw [Int.add_zero]
theorem wsum_take {l : List (List (Int × Int))} {i : Nat} {c : List (Int × Int)} (h : l[i]? = some c) : wsum (l.take (i + 1)) = wsum (l.take i) + rsum c := by
  obtain ⟨lt, e⟩ := List.getElem?_eq_some_iff.mp h
  rw [← List.take_append_getElem lt, wsum_app, e]
  show _ + (rsum c + 0) = _
  rw [Int.add_zero]
/-- what has fallen by each day -/
def fellBy (W : List (List (Int × Int))) (k : Nat) : Int := wsum (W.take k)
theorem firstBad_nn (rs : List Q4) : ∀ (W : List (List (Int × Int))) {k : Int} {g : List Int}, 0 ≤ k → 0 ≤ firstBad rs k g W
  | [], _, _, _ => Int.le_refl _
  | rep :: W, k, g, h => by
    show 0 ≤ (match dayStep rs k g rep with
      | none => k
      | some g' => firstBad rs (k + 1) g' W)
    split
    · exact h
    · exact firstBad_nn rs W (by omega)
section
variable {P : Program} {w : World} {K : PySem.W.Frag} {mg : Str → Option Value} {base : Heap}
def spFallC : Sp := fun vs H Q _ => ∃ (a : Addr) (W : List (List (Int × Int))), vs = [.ref a] ∧ WeaT H a W ∧ W.length ≤ 100 ∧ ∀ l H', H l = none → Same H H' → H' l = some (.lst (rowV (W.length + 1) (fellBy W))) → Q (.ref l) H'
theorem ok_fall_counts (T : Txt w K mg) : Ok P w K mg base CX0 1 "fall_counts" ["weather"] spFallC := by
  refine Ok.def0 (f_fall_counts T) (fun _ _ _ _ _ _ us hl => match us, hl with | [_], _ => rfl) sc_fall_counts (fun vs H Q E h => ?_) (fun f cdv A outer s H vs Q E hr h => ?_)
  · obtain ⟨a, W, rfl, _⟩ := h
    rfl
  · obtain ⟨a, W, rfl, ⟨ys, w1, w2⟩, hW, k⟩ := h
    refine ⟨_, (pss_cons (ps_set (i := 1) sc_fall_counts.nd rfl (by first | exact Or.inl rfl | exact Or.inr rfl) pe_int)
      (pss_cons (ps_set (i := 2) sc_fall_counts.nd rfl (by first | exact Or.inl rfl | exact Or.inr rfl) (pe_lst (pa_cons pe_int pa_nil)))
      (pss_cons (ps_for PassesOwn.never rfl (pi_listK (K := K) rfl (pv 0)) (pg_name (i := 3) sc_fall_counts.nd rfl (by first | exact Or.inl rfl | exact Or.inr rfl))
        (pss_cons (ps_for PassesOwn.never rfl (pi_listK (K := K) rfl (pv 3)) (pg_name (i := 4) sc_fall_counts.nd rfl (by first | exact Or.inl rfl | exact Or.inr rfl))
        (pss_one (ps_aug (i := 1) sc_fall_counts.nd rfl (by first | exact Or.inl rfl | exact Or.inr rfl) (pe_ix (ix_seqK (K := K) rfl) (pv 4) pe_int (fun _ _ => rfl)) ip_add)))
      (pss_one (ps_expr (pe_bm PySem.F.plainAttrs_list PySem.F.slot_list_append PySem.F.type_list_append mt_append (pv 2) (pa_cons (pv 1) pa_nil))))))
      (pss_one (ps_ret (pv 2)))))), ?_⟩
    refine ⟨(by show 1 ≤ sizeLine; decide), fun fl hfl => ?_⟩
    obtain ⟨s1, g1⟩ := new2 (.lst [V.int 0]) hfl
    have hyl : ys.length = W.length := Paired.length w2
    refine ⟨_, rfl, a, rfl, ⟨_, SqL.of (s1 _ _ w1)⟩, for_list (K := K) (a := a) (xs := ys) (fun i σ H' => ∃ v3 v4, σ = [some (.ref a), some (.int (fellBy W i)), some (.ref fl), v3, v4] ∧ Same H H' ∧ H' fl = some (.lst (rowV (i + 1) (fellBy W)))) ⟨_, _, rfl, s1, g1⟩ (fun _ _ _ _ ⟨_, _, _, z, _⟩ => SqL.of (z _ _ w1)) ?_ ?_⟩
    · rintro i x σ H1 hx ⟨v3, v4, rfl, e1, f1⟩
      obtain ⟨rep, hrep, l2, zs, rfl, r1, r2⟩ := paired_get w2 hx
      have hi : i < W.length := (List.getElem?_eq_some_iff.mp hrep).1
      have r1 := e1 _ _ r1
      refine gnE ?_
      refine ⟨_, rfl, l2, rfl, ⟨_, SqL.of r1⟩, for_list (K := K) (a := l2) (xs := zs) (fun j σ H' => ∃ v4, σ = [some (.ref a), some (.int (fellBy W i + rsum (rep.take j))), some (.ref fl), some (.ref l2), v4] ∧ Same H1 H') ⟨v4, ?_, Same.refl H1⟩ (fun _ _ _ _ ⟨_, _, z⟩ => SqL.of (z _ _ r1)) ?_ ?_⟩
      · show _ = [_, some (V.int (fellBy W i + 0)), _, _, _]
        rw [Int.add_zero]
        rfl
      · rintro j x σ H3 hx3 ⟨v4, rfl, e3⟩
        obtain ⟨c, hc, hr⟩ := paired_get r2 hx3
        refine gnE ?_
        refine ⟨_, rfl, _, rfl, ((hr.same e1).same e3).i1 ⟨_, _, rfl, rfl, some x, ?_, e3⟩⟩
        rw [rsum_take hc, ← Int.add_assoc]
        rfl
      · rintro σ H3 ⟨v4, rfl, e3⟩
        rw [Paired.length r2, List.take_length]
        have f3 := e3 _ _ f1
        refine ⟨_, rfl, .inl ⟨rfl, _, SqL.of f3⟩, _, rfl, fl, _, _, rfl, rfl, f3, line_lt (by rw [rowV_len]; omega), ?_⟩
        refine ⟨some (.ref l2), v4, ?_, same_mut (e1.trans e3) hfl, ?_⟩
        · unfold fellBy
          rw [wsum_take hrep]
        · rw [upd_same]
          unfold rowV
          rw [List.range_succ (n := i + 1), List.map_append]
          show _ = some (HO.lst (_ ++ [V.int (fellBy W (i + 1))]))
          unfold fellBy
          rw [wsum_take hrep]
    · rintro σ H1 ⟨v3, v4, rfl, e1, f1⟩
      rw [hyl] at f1
      exact ⟨_, rfl, k fl H1 hfl e1 f1⟩
def spCheckW (K : PySem.W.Frag) : Sp := fun vs H Q E => ∃ (T : Nat) (p a : Addr) (rs : List Q4) (W : List (List (Int × Int))), vs = [.ref p, .ref a] ∧ AlmAt K H p T rs ∧ WeaT H a W ∧ T ≤ 24 ∧ W.length ≤ 100 ∧ rs.length ≤ 40 ∧ (∀ r ∈ rs, GoodR r) ∧ total W ≤ 2000 ∧ (wrongOf rs T W = -1 → ∀ H', Same H H' → Q .non H') ∧ (wrongOf rs T W ≠ -1 → Rz E H (cWe K) "day" (.int (wrongOf rs T W)))
theorem ok_check_weather (T : Txt w K mg) : Ok P w K mg base (L2.CX P w) 6 "check_weather" ["almanac", "weather"] (spCheckW K) := by
  refine Ok.defX (f_check_weather T) (fun _ _ _ _ _ _ us hl => match us, hl with | [_, _], _ => rfl) sc_check_weather (fun vs H Q E h => ?_) (fun f cdv A outer s H vs Q E hr h tk => ?_)
  · obtain ⟨TT, p, a, rs, W, rfl, _⟩ := h
    rfl
  · obtain ⟨TT, p, a, rs, W, rfl, hA, hWt, hT, hW, hl, hg, htot, k, kb⟩ := h
    refine ⟨_, (pss_cons (ps_if (pt_cmpR op_ne (pe_callB (len_seqK (K := K) rfl) rfl (n_len T) (by decide +kernel) (pa_cons (pv 1) pa_nil)) (pe_okM0 (okm_Almanac_days T) (cl_Almanac T) (pv 0) (hr.mono (by first | decide | omega)) pass0) (nomark _)) (pss_one (ps_raise rfl tk (pmk_x (x_BadWeather T) (hr.mono (by first | decide | omega)) rfl (pa_cons pe_int pa_nil)))) pss_nil)
      (pss_cons (ps_set (i := 2) sc_check_weather.nd rfl (by first | exact Or.inl rfl | exact Or.inr rfl) (pe_okM (okm_Almanac_begins T) (cl_Almanac T) (pv 0) (hr.mono (by first | decide | omega)) pass0 (pa_cons (pv 1) pa_nil)))
      (pss_one (ps_if (pt_cmpR op_ne (pv 2) pe_int (nomark _)) (pss_one (ps_raise rfl tk (pmk_x (x_BadWeather T) (hr.mono (by first | decide | omega)) rfl (pa_cons (pv 2) pa_nil)))) pss_nil)))), ?_⟩
    obtain ⟨dx, l0, xs0, h1, h2, h3⟩ := id hA
    obtain ⟨ys, w1, w2⟩ := id hWt
    have hyl : ys.length = W.length := Paired.length w2
    refine ⟨_, rfl, _, _, rfl, .inl (SqL.of w1), _, rfl, p, dx, _, rfl, h1, af_no (by decide +kernel) (by decide +kernel), p, TT, rs, rfl, hA, rfl, _, rfl, ?_⟩
    rw [hyl]
    have ecast : (!decide (V.int (W.length : Int) = V.int (TT : Int))) = !decide (W.length = TT) := by
      congr 1
      rw [decide_eq_decide]
      exact ⟨fun z => by have := V.int.inj z; omega, fun z => by rw [z]⟩
    rw [ecast]
    cases hlen : decide (W.length = TT) with
    | false =>
      have hlen := of_decide_eq_false hlen
      have wr : wrongOf rs TT W = 0 := by unfold wrongOf; rw [if_neg hlen]
      have kb := kb (by rw [wr]; decide)
      rw [wr] at kb
      exact mko (kb.at (Same.refl H))
    | true =>
      have hlen := of_decide_eq_true hlen
      refine ⟨_, rfl, p, dx, _, rfl, h1, af_no (by decide +kernel) (by decide +kernel), _, rfl, p, TT, rs, a, W, rfl, hA, hl, hg, hWt, by omega, htot, fun H1 s1 => ?_⟩
      refine ⟨_, rfl, rfl, _, rfl, ?_⟩
      have ec : (!decide (V.int (firstBad rs 1 [] W) = V.int 0)) = !decide (firstBad rs 1 [] W = 0) := by
        congr 1
        rw [decide_eq_decide]
        exact ⟨fun z => V.int.inj z, fun z => by rw [z]⟩
      rw [ec]
      have wr : wrongOf rs TT W = if firstBad rs 1 [] W = 0 then -1 else firstBad rs 1 [] W := by unfold wrongOf; rw [if_pos hlen]
      cases q : decide (firstBad rs 1 [] W = 0) with
      | true =>
        have q := of_decide_eq_true q
        rw [if_pos q] at wr
        exact k wr H1 s1
      | false =>
        have q := of_decide_eq_false q
        rw [if_neg q] at wr
        have nn := firstBad_nn rs W (k := 1) (g := []) (by omega)
        have kb := kb (by rw [wr]; omega)
        rw [wr] at kb
        exact ⟨_, rfl, mko (kb.at s1)⟩
end
end K27
end
section
set_option maxRecDepth 100000
set_option maxHeartbeats 4000000
namespace K27
open PySem PySem.Spec PyProof.Rows L2
def tgB (M : Nat → Nat → Int) (F : Nat → Int) (c : Int × Int) : Bool := decide (F c.2.toNat - F c.1.toNat = M c.1.toNat c.2.toNat)
def tightL (M : Nat → Nat → Int) (F : Nat → Int) (T : Nat) : List (Int × Int) := (strL T).filter (tgB M F)
theorem ev_ixl {K : PySem.W.Frag} {σ : L2.St} {H0 : Hp} {l : Addr} {xs : List V} {i j n : Nat} {z : Int} {v : V} (hi : σ[i]? = some (some (.ref l))) (hj : σ[j]? = some (some (.int z))) (hz : z = (n : Int)) (hl : H0 l = some (.lst xs)) (hx : xs[n]? = some v) :
    Ev σ H0 (tOp (rIxL K) (tVar i) (tVar j)) v := fun H' R s q =>
  ⟨_, hi, _, hj, l, xs, _, v, rfl, rfl, SqL.of (s _ _ hl), at_of hz hx, q H' (Same.refl _)⟩
section
variable {P : Program} {w : World} {K : PySem.W.Frag} {mg : Str → Option Value} {base : Heap}
def spTightA : Sp := fun vs H Q _ => ∃ (T : Nat) (a tb l : Addr) (xs : List V) (W : List (List (Int × Int))) (M : Nat → Nat → Int) (L : List (Int × Int)), vs = [.ref a, .ref tb, .ref l] ∧ WeaT H a W ∧ W.length = T ∧ T ≤ 24 ∧ H tb = some (.dT (tabM M T)) ∧ H l = some (.lst xs) ∧ Paired (PairT H) xs L ∧ L.length ≤ 600 ∧ (∀ c ∈ L, ∃ a b : Nat, a < b ∧ b ≤ T ∧ c = ((a : Int), (b : Int))) ∧ ∀ p ys H', H p = none → Same H H' → H' p = some (.lst ys) → Paired (PairT H') ys (L.filter (tgB M (fellBy W))) → Q (.ref p) H'
theorem ok_tight_among (T : Txt w K mg) : Ok P w K mg base CX0 2 "tight_among" ["weather", "counts", "stretches"] spTightA := by
  refine Ok.def0 (f_tight_among T) (fun _ _ _ _ _ _ us hl => match us, hl with | [_, _, _], _ => rfl) sc_tight_among (fun vs H Q E h => ?_) (fun f cdv A outer s H vs Q E hr h => ?_)
  · obtain ⟨TT, a, tb, l, xs, W, M, L, rfl, _⟩ := h
    rfl
  · obtain ⟨TT, a, tb, l, xs, W, M, L, rfl, hWt, hW, hT, hd, hl, hP, hLl, hLm, k⟩ := h
    refine ⟨_, (pss_cons (ps_set (i := 3) sc_tight_among.nd rfl (by first | exact Or.inl rfl | exact Or.inr rfl) (pe_ok (ok_fall_counts T) (hr.mono (by first | decide | omega)) rfl pass0 (pa_cons (pv 0) pa_nil)))
      (pss_one (ps_ret (pe_lc (own := [("a", 4), ("b", 5)]) rfl sc_tight_among.nd (pi_listK (K := K) rfl (pv 2)) (blkOk_by (N := ["weather", "counts", "stretches", "fallen", "a", "b"]) (sc := defScope s_tight_among) (by decide +kernel)) (fun _ _ _ _ _ => (pg_tupK (K := K) (n := 2) rfl rfl (pgs_cons (pg_name (i := 4) sc_tight_among.nd rfl (by first | exact Or.inl rfl | exact Or.inr rfl)) (pgs_cons (pg_name (i := 5) sc_tight_among.nd rfl (by first | exact Or.inl rfl | exact Or.inr rfl)) pgs_nil)))) (fun _ _ _ _ _ => pts_one (pt_cmpR op_eq (pe_op op_sub (pe_ix (ix_listK (K := K) rfl) (pv 3) (pv 5) (fun _ _ => rfl)) (pe_ix (ix_listK (K := K) rfl) (pv 3) (pv 4) (fun _ _ => rfl))) (pe_dget (du hr.units) (pv 1) (pe_tup (pa_cons (pv 4) (pa_cons (pv 5) pa_nil))) (fun _ _ => rfl)) (nomark _))) (fun _ _ _ _ _ => (pe_tup (pa_cons (pv 4) (pa_cons (pv 5) pa_nil)))))))), ?_⟩
    have hxl : xs.length ≤ 600 := by
      rw [Paired.length hP]
      exact hLl
    refine ⟨_, rfl, a, W, rfl, hWt, by omega, fun fl H1 hfl s1 f1 => ?_⟩
    rw [hW] at f1
    refine ⟨_, rfl, l, rfl, ⟨_, SqL.of (s1 _ _ hl)⟩, fun D hD => lc_acc (K := K) (a := l) (xs := xs) hD (SqL.of (s1 _ _ hl)) (by omega) (fun j acc H' => Paired (PairT H') acc ((L.take j).filter (tgB M (fellBy W)))) (fun _ _ => .nil) ?_ ?_⟩
    · rintro j x acc H2 N N0 hx s2 hacc hI hN hN0
      obtain ⟨c, hc, hr⟩ := paired_get hP hx
      have hr := hr.same (s1.trans s2)
      obtain ⟨a', b', h1, h2', rfl⟩ := hLm _ (List.mem_of_getElem? hc)
      refine hr.un rfl ⟨rfl, ?_⟩
      have st := flt_take2 (p := tgB M (fellBy W)) hc _ rfl
      have f2 := s2 _ _ f1
      have d2 := s2 _ _ (s1 _ _ hd)
      refine EvT.run (b := tgB M (fellBy W) ((a' : Int), (b' : Int))) (EvT.test (Ev.eq (Ev.i2 (ev_ixl (n := b') rfl rfl rfl f2 (rowV_get (by omega))) (ev_ixl (n := a') rfl rfl rfl f2 (rowV_get (by omega)))) (Ev.dget (a := a') (b := b') (T := TT) d2 rfl (Ev.var rfl) (Ev.var rfl) rfl rfl (by omega) h2'))) fun H3 s3 => ?_
      cases q : tgB M (fellBy W) ((a' : Int), (b' : Int)) with
      | false =>
        rw [q] at st
        have st : (L.take (j + 1)).filter (tgB M (fellBy W)) = (L.take j).filter (tgB M (fellBy W)) := st.trans (List.append_nil _)
        refine hN0 _ s3 ?_
        rw [st]
        exact Paired.mapP hI fun _ _ z => z.same s3
      | true =>
        rw [q] at st
        have st : (L.take (j + 1)).filter (tgB M (fellBy W)) = (L.take j).filter (tgB M (fellBy W)) ++ [((a' : Int), (b' : Int))] := st
        refine ⟨_, rfl, _, rfl, (by show 2 ≤ sizeLine; decide), fun t ht => ?_⟩
        obtain ⟨s4, g4⟩ := new2 (.tup [.int (a' : Int), .int (b' : Int)]) ht
        have hacc4 := s4 _ _ (s3 _ _ hacc)
        refine hN _ _ (s3.trans s4) fun H5 b5 _ => ?_
        rw [st]
        exact Paired.snoc (Paired.mapP hI fun _ _ z => ((z.same s3).same s4).but hacc4 b5) ((show PairT _ (.ref t) ((a' : Int), (b' : Int)) from ⟨t, rfl, g4⟩).but hacc4 b5)
    · rintro acc H2 s2 hacc _ hI
      rw [Paired.length hP, List.take_length] at hI
      exact k D acc H2 (none_of s1 hD) (s1.trans s2) hacc hI
end
end K27
end
section
set_option maxRecDepth 100000
set_option maxHeartbeats 4000000
namespace K27
open PySem PySem.Spec PyProof.Rows L2
def canR (c : Int × Int) : Q4 := (c.1, c.2, 1, 1)
def inT (ws : List (Int × Int)) (a b : Int) (c : Int × Int) : Bool := !(decide ((ws.getD (c.1 - 1).toNat (0, 0)).1 ≤ a) || decide (b < (ws.getD (c.1 - 1).toNat (0, 0)).2))
/-- every fall of these days is one of a span within -/
def isT (ws : List (Int × Int)) (W : List (List (Int × Int))) (a b : Nat) : Bool := (List.range (b - a)).all fun k => (W.getD (a + k) []).all (inT ws (a : Int) (b : Int))
section
variable {P : Program} {w : World} {K : PySem.W.Frag} {mg : Str → Option Value} {base : Heap}
def spCanR : Sp := fun vs H Q _ => ∃ (l : Addr) (xs : List V) (ws : List (Int × Int)), vs = [.ref l] ∧ H l = some (.lst xs) ∧ Paired (PairT H) xs ws ∧ ws.length ≤ 40 ∧ ∀ p ys H', H p = none → Same H H' → H' p = some (.lst ys) → Paired (QuadT H') ys (ws.map canR) → Q (.ref p) H'
theorem ok__law_can_rains (T : Txt w K mg) : Ok P w K mg base CX0 1 "_law_can_rains" ["spans"] spCanR := by
  refine Ok.def0 (f__law_can_rains T) (fun _ _ _ _ _ _ us hl => match us, hl with | [_], _ => rfl) sc__law_can_rains (fun vs H Q E h => ?_) (fun f cdv A outer s H vs Q E hr h => ?_)
  · obtain ⟨l, xs, ws, rfl, _⟩ := h
    rfl
  · obtain ⟨l, xs, ws, rfl, hl, hP, hw, k⟩ := h
    refine ⟨_, (pss_one (ps_ret (pe_lc (own := [("span", 1)]) rfl sc__law_can_rains.nd (pi_listK (K := K) rfl (pv 0)) (blkOk_by (N := ["spans", "span"]) (sc := defScope s__law_can_rains) (by decide +kernel)) (fun _ _ _ _ _ => (pg_name (i := 1) sc__law_can_rains.nd rfl (by first | exact Or.inl rfl | exact Or.inr rfl))) (fun _ _ _ _ _ => pts_nil) (fun _ _ _ _ _ => (pe_tup (pa_cons (pe_ix (ix_seqK (K := K) rfl) (pv 1) pe_int (fun _ _ => rfl)) (pa_cons (pe_ix (ix_seqK (K := K) rfl) (pv 1) pe_int (fun _ _ => rfl)) (pa_cons pe_int (pa_cons pe_int pa_nil))))))))), ?_⟩
    have hxl : xs.length ≤ 40 := by rw [Paired.length hP]; exact hw
    refine ⟨_, rfl, l, rfl, ⟨_, SqL.of hl⟩, fun D hD => lc_acc (K := K) (a := l) (xs := xs) hD (SqL.of hl) (by omega) (fun j acc H' => Paired (QuadT H') acc ((ws.take j).map canR)) (fun _ _ => .nil) ?_ ?_⟩
    · rintro j x acc H2 N N0 hx s2 hacc hI hN hN0
      obtain ⟨c, hc, hr⟩ := paired_get hP hx
      have hr := hr.same s2
      refine gnE ⟨rfl, ?_⟩
      refine ⟨_, rfl, hr.i0 ⟨_, rfl, hr.i1 ⟨(by show 4 ≤ sizeLine; decide), fun t ht => ?_⟩⟩⟩
      obtain ⟨s3, g3⟩ := new2 (.tup [.int c.1, .int c.2, .int 1, .int 1]) ht
      have hacc3 := s3 _ _ hacc
      have tD : t ≠ D := fun z => by rw [z, hacc] at ht; cases ht
      refine hN _ _ s3 fun H5 b5 _ => ?_
      rw [take_get hc, List.map_append]
      refine Paired.snoc (Paired.mapP hI fun _ _ z => ?_) ⟨t, rfl, b5 _ _ g3 tD⟩
      obtain ⟨u, rfl, h⟩ := z.same s3
      exact ⟨u, rfl, b5 _ _ h fun z => by rw [z, s3 _ _ hacc] at h; cases h⟩
    · rintro acc H2 s2 hacc _ hI
      rw [Paired.length hP, List.take_length] at hI
      exact k D acc H2 hD s2 hacc hI
def spIsT : Sp := fun vs H Q _ => ∃ (l wa : Addr) (xs : List V) (ws : List (Int × Int)) (W : List (List (Int × Int))) (a b : Nat), vs = [.ref l, .ref wa, .int a, .int b] ∧ H l = some (.lst xs) ∧ Paired (PairT H) xs ws ∧ WeaT H wa W ∧ a ≤ b ∧ b ≤ W.length ∧ W.length ≤ 24 ∧ (∀ rep ∈ W, ∀ c ∈ rep, 1 ≤ c.1 ∧ c.1 ≤ (ws.length : Int)) ∧ ∀ H', Same H H' → Q (.bl (isT ws W a b)) H'
theorem ok__law_is_tight (T : Txt w K mg) : Ok P w K mg base CX0 1 "_law_is_tight" ["spans", "weather", "a", "b"] spIsT := by
  refine Ok.def0 (f__law_is_tight T) (fun _ _ _ _ _ _ us hl => match us, hl with | [_, _, _, _], _ => rfl) sc__law_is_tight (fun vs H Q E h => ?_) (fun f cdv A outer s H vs Q E hr h => ?_)
  · obtain ⟨l, wa, xs, ws, W, a, b, rfl, _⟩ := h
    rfl
  · obtain ⟨l, wa, xs, ws, W, a, b, rfl, hl, hP, ⟨ys, w1, w2⟩, hab, hb, hW, hin, k⟩ := h
    refine ⟨_, (pss_cons (ps_for PassesOwn.never rfl (pi_range2 rfl (n_range T) (pa_cons (pv 2) (pa_cons (pv 3) pa_nil))) (pg_name (i := 4) sc__law_is_tight.nd rfl (by first | exact Or.inl rfl | exact Or.inr rfl))
        (pss_one (ps_for PassesOwn.never rfl (pi_listK (K := K) rfl (pe_ix (ix_listK (K := K) rfl) (pv 1) (pv 4) (fun _ _ => rfl))) (pg_name (i := 5) sc__law_is_tight.nd rfl (by first | exact Or.inl rfl | exact Or.inr rfl))
        (pss_cons (ps_set (i := 6) sc__law_is_tight.nd rfl (by first | exact Or.inl rfl | exact Or.inr rfl) (pe_ix (ix_listK (K := K) rfl) (pv 0) (pe_op op_sub (pe_ix (ix_seqK (K := K) rfl) (pv 5) pe_int (fun _ _ => rfl)) pe_int) (fun _ _ => rfl)))
      (pss_one (ps_if (PW.pt (pw_or (pt_cmpR op_le (pe_ix (ix_seqK (K := K) rfl) (pv 6) pe_int (fun _ _ => rfl)) (pv 2) (nomark _)) (pw_or1 (pt_cmpR op_gt (pe_ix (ix_seqK (K := K) rfl) (pv 6) pe_int (fun _ _ => rfl)) (pv 3) (nomark _))))) (pss_one (ps_ret pe_bl)) pss_nil))))))
      (pss_one (ps_ret pe_bl))), ?_⟩
    have hyl : ys.length = W.length := Paired.length w2
    have hxl : xs.length = ws.length := Paired.length hP
    refine ⟨_, rfl, _, rfl, _, _, rfl, by omega, for_upto (lo := (a : Int)) (L := b - a) (by omega) (fun i σ H' => ∃ v4 v5 v6, σ = [some (.ref l), some (.ref wa), some (.int a), some (.int b), v4, v5, v6] ∧ H' = H ∧ ∀ k, k < i → (W.getD (a + k) []).all (inT ws (a : Int) (b : Int)) = true) ⟨_, _, _, rfl, rfl, fun k h => by omega⟩ ?_ ?_⟩
    · rintro i σ H1 hi ⟨v4, v5, v6, rfl, rfl, hlt⟩
      have z1 : (a : Int) + (i : Int) = ((a + i : Nat) : Int) := by omega
      rw [z1]
      refine gnE ?_
      obtain ⟨rep, hrep⟩ : ∃ rep, W[a + i]? = some rep := ⟨W[a + i]'(by omega), List.getElem?_eq_getElem _⟩
      obtain ⟨x, hx⟩ : ∃ x, ys[a + i]? = some x := ⟨ys[a + i]'(by omega), List.getElem?_eq_getElem _⟩
      obtain ⟨rep', hrep', l2, zs, rfl, r1, r2⟩ := paired_get w2 hx
      rw [hrep] at hrep'
      cases hrep'
      have ew : W.getD (a + i) [] = rep := by rw [List.getD_eq_getElem?_getD, hrep]; rfl
      have hinr := hin rep (List.mem_of_getElem? hrep)
      refine ⟨_, rfl, _, rfl, wa, ys, _, _, rfl, rfl, SqL.of w1, at_of rfl hx, l2, rfl, ⟨_, SqL.of r1⟩, for_list (K := K) (a := l2) (xs := zs) (fun j σ H' => ∃ v5 v6, σ = [some (.ref l), some (.ref wa), some (.int a), some (.int b), some (.int ((a + i : Nat) : Int)), v5, v6] ∧ H' = H1 ∧ ∀ c ∈ rep.take j, inT ws (a : Int) (b : Int) c = true) ⟨_, _, rfl, rfl, fun c h => by simp at h⟩ (fun _ _ _ _ h => ?_) ?_ ?_⟩
      · obtain ⟨_, _, _, e, _⟩ := h
        rw [e]
        exact SqL.of r1
      · rintro j x σ H3 hx3 ⟨v5, v6, rfl, rfl, hlt3⟩
        obtain ⟨c, hc, hr⟩ := paired_get r2 hx3
        have hci := hinr c (List.mem_of_getElem? hc)
        obtain ⟨n, hn⟩ : ∃ n : Nat, c.1 = (n : Int) + 1 := ⟨(c.1 - 1).toNat, by omega⟩
        obtain ⟨r, hr4⟩ : ∃ r, ws[n]? = some r := ⟨ws[n]'(by omega), List.getElem?_eq_getElem _⟩
        obtain ⟨y, hy⟩ : ∃ y, xs[n]? = some y := ⟨xs[n]'(by omega), List.getElem?_eq_getElem _⟩
        obtain ⟨r', hr', hq⟩ := paired_get hP hy
        rw [hr4] at hr'
        cases hr'
        have eg : ws.getD (c.1 - 1).toNat (0, 0) = r := by
          have : (c.1 - 1).toNat = n := by omega
          rw [this, List.getD_eq_getElem?_getD, hr4]
          rfl
        have ei : inT ws (a : Int) (b : Int) c = !(decide (r.1 ≤ (a : Int)) || decide ((b : Int) < r.2)) := by unfold inT; rw [eg]
        have bad : inT ws (a : Int) (b : Int) c = false → Q (.bl false) H3 := fun q => by
          have : isT ws W a b = false := by
            rw [Bool.eq_false_iff]
            intro z
            have := List.all_eq_true.mp z i (List.mem_range.mpr (by omega))
            rw [ew] at this
            have := List.all_eq_true.mp this c (List.mem_of_getElem? hc)
            rw [q] at this
            cases this
          rw [this] at k
          exact k _ (Same.refl _)
        refine gnE ?_
        refine ⟨_, rfl, _, rfl, hr.i0 ⟨_, _, rfl, rfl, l, xs, _, y, rfl, rfl, SqL.of hl, at_of (by omega) hy, ?_⟩⟩
        refine ⟨_, rfl, hq.i0 ⟨_, rfl, _, _, rfl, rfl, _, rfl, ?_⟩⟩
        cases t1 : decide (r.1 ≤ (a : Int)) with
        | true => exact bad (by rw [ei, t1]; rfl)
        | false =>
          refine ⟨_, rfl, hq.i1 ⟨_, rfl, _, _, rfl, rfl, _, rfl, ?_⟩⟩
          cases t2 : decide ((b : Int) < r.2) with
          | true => exact bad (by rw [ei, t1, t2]; rfl)
          | false =>
            refine ⟨_, _, rfl, rfl, fun d hd => ?_⟩
            rw [take_get hc] at hd
            rcases List.mem_append.mp hd with hd | hd
            · exact hlt3 d hd
            · rw [List.mem_singleton.mp hd, ei, t1, t2]
              rfl
      · rintro σ H3 ⟨v5, v6, rfl, rfl, hlt3⟩
        rw [Paired.length r2, List.take_length] at hlt3
        refine ⟨_, _, _, rfl, rfl, fun q hq => ?_⟩
        by_cases eq : q = i
        · rw [eq, ew]
          exact List.all_eq_true.mpr hlt3
        · exact hlt q (by omega)
    · rintro σ H1 ⟨v4, v5, v6, rfl, rfl, hlt⟩
      have : isT ws W a b = true := List.all_eq_true.mpr fun q hq => hlt q (List.mem_range.mp hq)
      rw [this] at k
      exact k _ (Same.refl _)
end
end K27
end
section
set_option maxRecDepth 100000
set_option maxHeartbeats 4000000
namespace K27
open PySem PySem.Spec PyProof.Rows L2
/-! ### a stretch is tight if and only if each of its falls is one of a span within -/
theorem len_sub {l : List Int} : ∀ {m : List Int}, l.Nodup → (∀ x ∈ l, x ∈ m) → l.length ≤ m.length := by
  induction l with
  | nil => intro m _ _; exact Nat.zero_le _
  | cons x l ih =>
    intro m hn hs
    rw [List.nodup_cons] at hn
    have hx := hs x List.mem_cons_self
    have := ih (m := m.erase x) hn.2 fun y hy => by
      have hne : y ≠ x := fun z => hn.1 (by rw [← z]; exact hy)
      exact (List.mem_erase_of_ne hne).mpr (hs y (List.mem_cons_of_mem _ hy))
    rw [List.length_erase_of_mem hx] at this
    have : 0 < m.length := List.length_pos_of_mem hx
    rw [List.length_cons]
    omega
theorem eq_sub {l m : List Int} (hl : l.Nodup) (hm : m.Nodup) (h : ∀ x ∈ l, x ∈ m) (e : l.length = m.length) : ∀ x ∈ m, x ∈ l := fun x hx => by
  by_cases c : x ∈ l
  · exact c
  · have := len_sub (l := x :: l) (m := m) (List.nodup_cons.mpr ⟨c, hl⟩) fun y hy => by
      rcases List.mem_cons.mp hy with rfl | hy
      · exact hx
      · exact h y hy
    rw [List.length_cons] at this
    omega
def nums (W : List (List (Int × Int))) : List Int := W.flatten.map Prod.fst
theorem nums_app {a b : List (List (Int × Int))} : nums (a ++ b) = nums a ++ nums b := by unfold nums; rw [List.flatten_append, List.map_append]
theorem falls_ok {rs : List Q4} {d : Int} : ∀ {rep : List (Int × Int)} {b : Int} {g g' : List Int}, 0 ≤ b → falls rs d b g rep = some g' →
    g' = g ++ rep.map Prod.fst ∧ (g.Nodup → g'.Nodup) ∧ ∀ c ∈ rep, 1 ≤ c.1 ∧ c.1 ≤ (rs.length : Int) ∧ okR (rs.getD (c.1 - 1).toNat (0, 0, 0, 0)) d c.2 = true
  | [], b, g, g', _, h => by
    cases h
    exact ⟨by simp, fun h => h, fun c hc => by cases hc⟩
  | c :: r, b, g, g', hb, h => by
    unfold falls at h
    split at h
    · rename_i ho
      unfold okF at ho
      simp only [Bool.and_eq_true, decide_eq_true_eq, Bool.not_eq_true', decide_eq_false_iff_not] at ho
      obtain ⟨h1, h2, h3, h4⟩ := ho
      obtain ⟨e, n, k⟩ := falls_ok (by omega) h
      refine ⟨by rw [e, List.map_cons, List.append_assoc]; rfl, fun hg => n ?_, fun c' hc => ?_⟩
      · rw [List.nodup_append]
        refine ⟨hg, by simp, fun x hx y hy => ?_⟩
        rw [List.mem_singleton.mp hy]
        exact fun z => h3 (by rw [← z]; exact hx)
      · rcases List.mem_cons.mp hc with rfl | hc
        · exact ⟨by omega, h2, h4⟩
        · exact k c' hc
    · cases h
theorem first_ok {rs : List Q4} : ∀ {W : List (List (Int × Int))} {k : Int} {g : List Int}, 1 ≤ k → firstBad rs k g W = 0 → g.Nodup →
    (g ++ nums W).Nodup ∧ (∀ (i : Nat) (rep : List (Int × Int)), W[i]? = some rep → ∀ c ∈ rep, 1 ≤ c.1 ∧ c.1 ≤ (rs.length : Int) ∧ okR (rs.getD (c.1 - 1).toNat (0, 0, 0, 0)) (k + (i : Int)) c.2 = true) ∧
    ∀ i, i < W.length → ∀ q, q < rs.length → (rs.getD q (0, 0, 0, 0)).2.1 ≤ k + (i : Int) → ((q : Int) + 1) ∈ g ++ nums (W.take (i + 1))
  | [], k, g, _, _, hg => ⟨by unfold nums; simpa using hg, fun i rep h => by simp at h, fun i h => by simp at h⟩
  | rep :: W, k, g, hk, h, hg => by
    have hst : firstBad rs k g (rep :: W) = match dayStep rs k g rep with
      | none => k
      | some g' => firstBad rs (k + 1) g' W := rfl
    rw [hst] at h
    unfold dayStep at h
    cases hf : falls rs k 0 g rep with
    | none =>
      rw [hf] at h
      have h : k = 0 := h
      omega
    | some g' =>
      rw [hf] at h
      obtain ⟨e, n, kk⟩ := falls_ok (Int.le_refl 0) hf
      cases hd : dueBad rs k g' with
      | true =>
        have h : (match (if dueBad rs k g' = true then none else some g' : Option (List Int)) with
          | none => k
          | some g' => firstBad rs (k + 1) g' W) = 0 := h
        rw [if_pos hd] at h
        have h : k = 0 := h
        omega
      | false =>
        have h : (match (if dueBad rs k g' = true then none else some g' : Option (List Int)) with
          | none => k
          | some g' => firstBad rs (k + 1) g' W) = 0 := h
        rw [if_neg (by rw [hd]; decide)] at h
        have h : firstBad rs (k + 1) g' W = 0 := h
        obtain ⟨p1, p2, p3⟩ := first_ok (by omega) h (n hg)
        have en : ∀ V, g' ++ nums V = g ++ nums (rep :: V) := fun V => by
          rw [e, List.append_assoc]
          congr 1
          unfold nums
          rw [List.flatten_cons, List.map_append]
        refine ⟨by rw [← en]; exact p1, fun i rep' hi c hc => ?_, fun i hi q hq hl => ?_⟩
        · cases i with
          | zero =>
            have : rep = rep' := by simpa using hi
            rw [← this] at hc
            have := kk c hc
            rw [show k + ((0 : Nat) : Int) = k by omega]
            exact this
          | succ i =>
            have := p2 i rep' (by simpa using hi) c hc
            rw [show k + ((i + 1 : Nat) : Int) = k + 1 + (i : Int) by omega]
            exact this
        · cases i with
          | zero =>
            have hno : late rs k g' q = false := by
              unfold dueBad at hd
              rw [List.any_eq_false] at hd
              exact Bool.eq_false_iff.mpr (hd q (List.mem_range.mpr hq))
            unfold late at hno
            rw [decide_eq_true (by omega)] at hno
            have : ((q : Int) + 1) ∈ g' := by simpa using hno
            rw [List.take_succ_cons, ← en]
            exact List.mem_append_left _ this
          | succ i =>
            rw [List.take_succ_cons, ← en]
            rw [List.length_cons] at hi
            exact p3 i (by omega) q hq (by omega)
end K27
end
section
set_option maxRecDepth 100000
set_option maxHeartbeats 4000000
namespace K27
open PySem PySem.Spec PyProof.Rows L2
theorem flt_range {p : Q4 → Bool} {z : Q4} : ∀ rs : List Q4, (rs.filter p).length = ((List.range rs.length).filter fun q => p (rs.getD q z)).length
  | [] => rfl
  | r :: rs => by
    rw [List.length_cons, List.range_succ_eq_map, List.filter_cons, List.filter_cons, List.filter_map]
    have ih := flt_range (p := p) (z := z) rs
    have e : ((fun q => p ((r :: rs).getD q z)) ∘ Nat.succ) = fun q => p (rs.getD q z) := by
      funext q
      simp [Function.comp]
    have e0 : p ((r :: rs).getD 0 z) = p r := by simp
    rw [e0]
    split
    · rw [List.length_cons, List.length_cons, List.length_map, e, ih]
    · rw [List.length_map, e, ih]
theorem wsum_ones : ∀ {L : List (List (Int × Int))}, (∀ rep ∈ L, ∀ c ∈ rep, c.2 = 1) → wsum L = ((nums L).length : Int)
  | [], _ => rfl
  | rep :: L, h => by
    have ih := wsum_ones (L := L) fun r hr => h r (List.mem_cons_of_mem _ hr)
    have h0 := h rep List.mem_cons_self
    have : ∀ {rep : List (Int × Int)}, (∀ c ∈ rep, c.2 = 1) → rsum rep = (rep.length : Int) := fun {rep} => by
      induction rep with
      | nil => intro _; rfl
      | cons c r ih =>
        intro h
        show c.2 + rsum r = _
        rw [h c List.mem_cons_self, ih fun c hc => h c (List.mem_cons_of_mem _ hc), List.length_cons]
        omega
    show rsum rep + wsum L = _
    rw [this h0, ih]
    unfold nums
    rw [List.flatten_cons, List.map_append, List.length_append, List.length_map (as := rep), Int.natCast_add]
theorem canR_get {ws : List (Int × Int)} {q : Nat} (h : q < ws.length) : (ws.map canR).getD q (0, 0, 0, 0) = canR (ws.getD q (0, 0)) := by
  rw [List.getD_eq_getElem?_getD, List.getD_eq_getElem?_getD, List.getElem?_map, List.getElem?_eq_getElem h]
  rfl
def withinL (ws : List (Int × Int)) (a b : Nat) : List Int := ((List.range ws.length).filter fun q => decide ((a : Int) < ((ws.map canR).getD q (0, 0, 0, 0)).1) && decide (((ws.map canR).getD q (0, 0, 0, 0)).2.1 ≤ (b : Int))).map fun (q : Nat) => (q : Int) + 1
theorem withinL_len {ws : List (Int × Int)} {a b : Nat} : ((withinL ws a b).length : Int) = tabR (ws.map canR) a b := by
  unfold withinL tabR cN
  rw [List.length_map, flt_range (z := (0, 0, 0, 0)) (ws.map canR), List.length_map]
theorem withinL_nodup {ws : List (Int × Int)} {a b : Nat} : (withinL ws a b).Nodup := by
  unfold withinL
  refine List.pairwise_map.mpr (List.Pairwise.imp (R := fun x y => x ≠ y) (fun {x y : Nat} h (z : (x : Int) + 1 = (y : Int) + 1) => h (by omega)) ?_)
  exact List.Pairwise.filter _ List.nodup_range
theorem withinL_mem {ws : List (Int × Int)} {a b q : Nat} (hq : q < ws.length) : ((q : Int) + 1) ∈ withinL ws a b ↔ ((a : Int) < (ws.getD q (0, 0)).1 ∧ (ws.getD q (0, 0)).2 ≤ (b : Int)) := by
  unfold withinL
  rw [List.mem_map]
  constructor
  · rintro ⟨p, hp, e⟩
    have : p = q := by omega
    rw [this] at hp
    have := (List.mem_filter.mp hp).2
    rw [canR_get hq] at this
    simpa [canR] using this
  · rintro ⟨h1, h2⟩
    refine ⟨q, List.mem_filter.mpr ⟨List.mem_range.mpr hq, ?_⟩, rfl⟩
    rw [canR_get hq]
    simpa [canR] using ⟨h1, h2⟩
theorem nums_mem {W : List (List (Int × Int))} {x : Int} : x ∈ nums W ↔ ∃ (i : Nat) (rep : List (Int × Int)), W[i]? = some rep ∧ ∃ c ∈ rep, c.1 = x := by
  unfold nums
  rw [List.mem_map]
  constructor
  · rintro ⟨c, hc, rfl⟩
    obtain ⟨rep, hr, hc⟩ := List.mem_flatten.mp hc
    obtain ⟨i, hi⟩ := List.getElem?_of_mem hr
    exact ⟨i, rep, hi, c, hc, rfl⟩
  · rintro ⟨i, rep, hi, c, hc, rfl⟩
    exact ⟨c, List.mem_flatten.mpr ⟨rep, List.mem_of_getElem? hi, hc⟩, rfl⟩
theorem tight_is {ws : List (Int × Int)} {W : List (List (Int × Int))} {a b : Nat} (h : firstBad (ws.map canR) 1 [] W = 0) (hab : a ≤ b) (hb : b ≤ W.length) (hg : ∀ r ∈ ws.map canR, GoodR r) :
    decide (fellBy W b - fellBy W a = tabR (ws.map canR) a b) = isT ws W a b := by
  obtain ⟨p1, p2, p3⟩ := first_ok (by omega) h List.nodup_nil
  rw [List.nil_append] at p1
  have hn : (ws.map canR).length = ws.length := List.length_map _
  have ones : ∀ (i : Nat) (rep : List (Int × Int)), W[i]? = some rep → ∀ c ∈ rep, c.2 = 1 ∧ ∃ q : Nat, q < ws.length ∧ c.1 = (q : Int) + 1 ∧ (ws.getD q (0, 0)).1 ≤ 1 + (i : Int) ∧ 1 + (i : Int) ≤ (ws.getD q (0, 0)).2 := fun i rep hi c hc => by
    obtain ⟨h1, h2, h3⟩ := p2 i rep hi c hc
    rw [hn] at h2
    have hq : (c.1 - 1).toNat < ws.length := by omega
    rw [canR_get hq] at h3
    unfold okR canR at h3
    simp only [Bool.and_eq_true, decide_eq_true_eq] at h3
    exact ⟨by omega, (c.1 - 1).toNat, hq, by omega, h3.1, h3.2.1⟩
  have eT : W.take b = W.take a ++ (W.take b).drop a := by
    have := List.take_append_drop a (W.take b)
    rw [List.take_take, Nat.min_eq_left hab] at this
    exact this.symm
  have hL : ∀ {i : Nat} {rep : List (Int × Int)}, ((W.take b).drop a)[i]? = some rep → W[a + i]? = some rep ∧ a + i < b := fun {i rep} hi => by
    rw [List.getElem?_drop, List.getElem?_take] at hi
    split at hi
    · rename_i lt
      exact ⟨hi, lt⟩
    · cases hi
  have onesL : ∀ rep ∈ (W.take b).drop a, ∀ c ∈ rep, c.2 = 1 := fun rep hr c hc => by
    obtain ⟨i, hi⟩ := List.getElem?_of_mem hr
    exact (ones _ rep (hL hi).1 c hc).1
  have ef : fellBy W b - fellBy W a = ((nums ((W.take b).drop a)).length : Int) := by
    have e1 : fellBy W b = wsum (W.take a) + wsum ((W.take b).drop a) := by
      rw [← wsum_app, ← eT]
      rfl
    rw [e1, wsum_ones onesL]
    unfold fellBy
    omega
  have nodL : (nums ((W.take b).drop a)).Nodup := by
    rw [← List.take_append_drop b W, eT, nums_app, nums_app] at p1
    exact (List.nodup_append.mp (List.nodup_append.mp p1).1).2.1
  have subW : ∀ x ∈ withinL ws a b, x ∈ nums ((W.take b).drop a) := fun x hx => by
    obtain ⟨q, hq, rfl⟩ : ∃ q : Nat, q < ws.length ∧ x = (q : Int) + 1 := by
      unfold withinL at hx
      obtain ⟨q, hq, e⟩ := List.mem_map.mp hx
      exact ⟨q, List.mem_range.mp (List.mem_filter.mp hq).1, e.symm⟩
    obtain ⟨h1, h2⟩ := (withinL_mem hq).mp hx
    have hgq : GoodR (canR (ws.getD q (0, 0))) := by
      have : canR (ws.getD q (0, 0)) ∈ ws.map canR := by
        rw [List.getD_eq_getElem?_getD, List.getElem?_eq_getElem hq]
        exact List.mem_map.mpr ⟨ws[q], List.getElem_mem hq, rfl⟩
      exact hg _ this
    unfold GoodR canR at hgq
    have hgq1 : 1 ≤ (ws.getD q (0, 0)).1 := hgq.1
    have hgq2 : (ws.getD q (0, 0)).1 ≤ (ws.getD q (0, 0)).2 := hgq.2.1
    obtain ⟨y, hy⟩ : ∃ y : Nat, (ws.getD q (0, 0)).2 = (y : Int) + 1 := ⟨((ws.getD q (0, 0)).2 - 1).toNat, by omega⟩
    have := p3 y (by omega) q (by omega) (by rw [canR_get hq]; show (ws.getD q (0, 0)).2 ≤ _; omega)
    rw [List.nil_append] at this
    obtain ⟨i, rep, hi, c, hc, ec⟩ := nums_mem.mp this
    rw [List.getElem?_take] at hi
    split at hi
    · rename_i lt
      obtain ⟨_, q', hq', e', l1, l2⟩ := ones i rep hi c hc
      have : q' = q := by omega
      rw [this] at l1 l2
      refine nums_mem.mpr ⟨i - a, rep, ?_, c, hc, ec⟩
      rw [List.getElem?_drop, List.getElem?_take, if_pos (by omega), show a + (i - a) = i by omega]
      exact hi
    · cases hi
  rw [ef, ← withinL_len]
  have key : isT ws W a b = true ↔ ∀ x ∈ nums ((W.take b).drop a), x ∈ withinL ws a b := by
    unfold isT
    rw [List.all_eq_true]
    constructor
    · intro z x hx
      obtain ⟨i, rep, hi, c, hc, rfl⟩ := nums_mem.mp hx
      obtain ⟨hi1, hi2⟩ := hL hi
      have := z i (List.mem_range.mpr (by omega))
      rw [List.getD_eq_getElem?_getD, hi1] at this
      have := List.all_eq_true.mp this c hc
      obtain ⟨_, q, hq, e, _, _⟩ := ones _ rep hi1 c hc
      rw [e, withinL_mem hq]
      unfold inT at this
      rw [show (c.1 - 1).toNat = q by omega] at this
      simp only [Bool.not_eq_true', Bool.or_eq_false_iff, decide_eq_false_iff_not] at this
      omega
    · intro z k hk
      have hk := List.mem_range.mp hk
      obtain ⟨rep, hrep⟩ : ∃ rep, W[a + k]? = some rep := ⟨W[a + k]'(by omega), List.getElem?_eq_getElem _⟩
      rw [List.getD_eq_getElem?_getD, hrep]
      refine List.all_eq_true.mpr fun c hc => ?_
      have := z c.1 (nums_mem.mpr ⟨k, rep, by rw [List.getElem?_drop, List.getElem?_take, if_pos (by omega)]; exact hrep, c, hc, rfl⟩)
      obtain ⟨_, q, hq, e, _, _⟩ := ones _ rep hrep c hc
      rw [e, withinL_mem hq] at this
      unfold inT
      rw [show (c.1 - 1).toNat = q by omega]
      simp only [Bool.not_eq_true', Bool.or_eq_false_iff, decide_eq_false_iff_not]
      omega
  rw [Bool.eq_iff_iff, decide_eq_true_eq, key]
  constructor
  · intro e
    exact eq_sub withinL_nodup nodL subW (by omega)
  · intro s
    have h1 := len_sub nodL s
    have h2 := len_sub withinL_nodup subW
    omega
end K27
end
section
set_option maxRecDepth 100000
set_option maxHeartbeats 4000000
namespace K27
open PySem PySem.Spec PyProof.Rows L2
/-! ### deep copies -/
def SeqOf {α : Type} (b : Bool) (R : Hp → V → α → Prop) (H : Hp) (v : V) (ds : List α) : Prop := ∃ a xs, v = .ref a ∧ H a = some (if b = true then .lst xs else .tup xs) ∧ Paired (R H) xs ds ∧ ds.length ≤ 3000
def spDp {α : Type} (R : Hp → V → α → Prop) : Sp := fun vs H Q _ => ∃ v d, vs = [v] ∧ R H v d ∧ ∀ v' H', Same H H' → R H' v' d → (∀ a, v' = .ref a → H a = none) → Q v' H'
section
variable {P : Program} {w : World} {K : PySem.W.Frag} {mg : Str → Option Value} {base : Heap}
def IntR (_ : Hp) (v : V) (n : Int) : Prop := v = .int n
theorem ok_dp0 (T : Txt w K mg) : Ok P w K mg base CX0 1 "_law_deep" ["thing"] (spDp IntR) := by
  have ok__law_deep : Txt w K mg → Ok P w K mg base CX0 0 "_law_deep" ["thing"] (fun _ _ _ _ => False) := fun T => Ok.never (f__law_deep T) (fun _ _ _ _ _ _ us hl => match us, hl with | [_], _ => rfl)
  refine Ok.def0 (f__law_deep T) (fun _ _ _ _ _ _ us hl => match us, hl with | [_], _ => rfl) sc__law_deep (fun vs H Q E h => ?_) (fun f cdv A outer s H vs Q E hr h => ?_)
  · obtain ⟨v, d, rfl, _⟩ := h
    rfl
  · obtain ⟨v, d, rfl, rfl, k⟩ := h
    refine ⟨_, (pss_cons (ps_if (pt_val (pe_callB (isiK (K := K) rfl) rfl (n_isinstance T) (by decide +kernel) (pa_cons (pv 0) (pa_cons (pe_bltn (v := .ty "list") (u := .type "list") rfl (n_list T) (by decide +kernel) rfl) pa_nil)))) (pss_one (ps_ret (pe_lc (own := [("one", 1)]) rfl sc__law_deep.nd (pi_listK (K := K) rfl (pv 0)) (blkOk_by (N := ["thing", "one"]) (sc := defScope s__law_deep) (by decide +kernel)) (fun _ _ _ _ _ => (pg_name (i := 1) sc__law_deep.nd rfl (by first | exact Or.inl rfl | exact Or.inr rfl))) (fun _ _ _ _ _ => pts_nil) (fun _ _ _ _ _ => (pe_ok (ok__law_deep T) (hr.mono (by first | decide | omega)) rfl pass0 (pa_cons (pv 1) pa_nil)))))) pss_nil)
      (pss_cons (ps_if (pt_val (pe_callB (isiK (K := K) rfl) rfl (n_isinstance T) (by decide +kernel) (pa_cons (pv 0) (pa_cons (pe_bltn (v := .ty "tuple") (u := .type "tuple") rfl (n_tuple T) (by decide +kernel) rfl) pa_nil)))) (pss_one (ps_ret (pe_callTy call_tuple_of rfl (n_tuple T) (by decide +kernel) (pa_cons (pe_lc (own := [("one", 1)]) rfl sc__law_deep.nd (pi_tupK (K := K) rfl (pv 0)) (blkOk_by (N := ["thing", "one"]) (sc := defScope s__law_deep) (by decide +kernel)) (fun _ _ _ _ _ => (pg_name (i := 1) sc__law_deep.nd rfl (by first | exact Or.inl rfl | exact Or.inr rfl))) (fun _ _ _ _ _ => pts_nil) (fun _ _ _ _ _ => (pe_ok (ok__law_deep T) (hr.mono (by first | decide | omega)) rfl pass0 (pa_cons (pv 1) pa_nil)))) pa_nil)))) pss_nil)
      (pss_one (ps_ret (pv 0))))), ?_⟩
    refine ⟨_, rfl, ⟨_, _, _, _, _, rfl, .ty _, tx_int _, k_il, _, rfl, iteF ?_⟩⟩
    refine ⟨_, rfl, ⟨_, _, _, _, _, rfl, .ty _, tx_int _, k_it, _, rfl, iteF ?_⟩⟩
    exact ⟨_, rfl, k _ _ (Same.refl _) rfl fun a e => by cases e⟩
theorem dp_gen {α : Type} {R : Hp → V → α → Prop} {n : Nat} (b : Bool) (T : Txt w K mg) (ok__law_deep : Txt w K mg → Ok P w K mg base CX0 n "_law_deep" ["thing"] (spDp R)) (hS : ∀ H H' v d, Same H H' → R H v d → R H' v d)
    (hB : ∀ H H' D acc v d, H D = some (.lst acc) → (∀ a, v = .ref a → a ≠ D) → But D H H' → R H v d → R H' v d) : Ok P w K mg base CX0 (n + 1) "_law_deep" ["thing"] (spDp (SeqOf b R)) := by
  refine Ok.def0 (f__law_deep T) (fun _ _ _ _ _ _ us hl => match us, hl with | [_], _ => rfl) sc__law_deep (fun vs H Q E h => ?_) (fun f cdv A outer s H vs Q E hr h => ?_)
  · obtain ⟨v, d, rfl, _⟩ := h
    rfl
  · obtain ⟨v, d, rfl, h, k⟩ := h
    refine ⟨_, (pss_cons (ps_if (pt_val (pe_callB (isiK (K := K) rfl) rfl (n_isinstance T) (by decide +kernel) (pa_cons (pv 0) (pa_cons (pe_bltn (v := .ty "list") (u := .type "list") rfl (n_list T) (by decide +kernel) rfl) pa_nil)))) (pss_one (ps_ret (pe_lc (own := [("one", 1)]) rfl sc__law_deep.nd (pi_listK (K := K) rfl (pv 0)) (blkOk_by (N := ["thing", "one"]) (sc := defScope s__law_deep) (by decide +kernel)) (fun _ _ _ _ _ => (pg_name (i := 1) sc__law_deep.nd rfl (by first | exact Or.inl rfl | exact Or.inr rfl))) (fun _ _ _ _ _ => pts_nil) (fun _ _ _ _ _ => (pe_ok (ok__law_deep T) (hr.mono (by first | decide | omega)) rfl pass0 (pa_cons (pv 1) pa_nil)))))) pss_nil)
      (pss_cons (ps_if (pt_val (pe_callB (isiK (K := K) rfl) rfl (n_isinstance T) (by decide +kernel) (pa_cons (pv 0) (pa_cons (pe_bltn (v := .ty "tuple") (u := .type "tuple") rfl (n_tuple T) (by decide +kernel) rfl) pa_nil)))) (pss_one (ps_ret (pe_callTy call_tuple_of rfl (n_tuple T) (by decide +kernel) (pa_cons (pe_lc (own := [("one", 1)]) rfl sc__law_deep.nd (pi_tupK (K := K) rfl (pv 0)) (blkOk_by (N := ["thing", "one"]) (sc := defScope s__law_deep) (by decide +kernel)) (fun _ _ _ _ _ => (pg_name (i := 1) sc__law_deep.nd rfl (by first | exact Or.inl rfl | exact Or.inr rfl))) (fun _ _ _ _ _ => pts_nil) (fun _ _ _ _ _ => (pe_ok (ok__law_deep T) (hr.mono (by first | decide | omega)) rfl pass0 (pa_cons (pv 1) pa_nil)))) pa_nil)))) pss_nil)
      (pss_one (ps_ret (pv 0))))), ?_⟩
    obtain ⟨a, xs, rfl, ha, hP, hz⟩ := h
    cases b with
    | true =>
      have ha : H a = some (.lst xs) := ha
      have hxl := Paired.length hP
      refine ⟨_, rfl, ⟨_, _, _, _, _, rfl, .ty _, tx_lst ha, k_ll, _, rfl, iteT ?_⟩⟩
      refine ⟨_, rfl, a, rfl, ⟨_, SqL.of ha⟩, fun D hD => lc_acc (K := K) (a := a) (xs := xs) hD (SqL.of ha) (by omega) (fun j acc H' => Paired (fun v d => R H' v d ∧ ∀ a, v = .ref a → a ≠ D) acc (d.take j)) (fun _ _ => .nil) ?_ ?_⟩
      · rintro j x acc H2 N N0 hx s2 hacc hI hN hN0
        obtain ⟨e, he, hr⟩ := paired_get hP hx
        refine gnE ⟨rfl, ?_⟩
        refine ⟨_, rfl, x, e, rfl, hS _ _ _ _ s2 hr, fun v' H3 s3 h3 hf => ?_⟩
        have hacc3 := s3 _ _ hacc
        have nD : ∀ a, v' = .ref a → a ≠ D := fun a e z => by
          have := hf a e
          rw [z, hacc] at this
          cases this
        refine hN _ _ s3 fun H5 b5 _ => ?_
        rw [take_get he]
        exact Paired.snoc (Paired.mapP hI fun _ _ z => ⟨hB _ _ D acc _ _ hacc3 z.2 b5 (hS _ _ _ _ s3 z.1), z.2⟩) ⟨hB _ _ D acc _ _ hacc3 nD b5 h3, nD⟩
      · rintro acc H2 s2 hacc _ hI
        rw [hxl, List.take_length] at hI
        exact k _ H2 s2 ⟨D, acc, rfl, hacc, Paired.mapP hI fun _ _ z => z.1, hz⟩ fun a e => by cases e; exact hD
    | false =>
      have ha : H a = some (.tup xs) := ha
      have hxl := Paired.length hP
      refine ⟨_, rfl, ⟨_, _, _, _, _, rfl, .ty _, tx_tup ha, k_tl, _, rfl, iteF ?_⟩⟩
      refine ⟨_, rfl, ⟨_, _, _, _, _, rfl, .ty _, tx_tup ha, k_tt, _, rfl, iteT ?_⟩⟩
      refine ⟨_, rfl, a, rfl, ⟨_, SqT.of ha⟩, fun D hD => lc_accT (K := K) (a := a) (xs := xs) hD (SqT.of ha) (by omega) (fun j acc H' => Paired (fun v d => R H' v d ∧ ∀ a, v = .ref a → a ≠ D) acc (d.take j)) (fun _ _ => .nil) ?_ ?_⟩
      · rintro j x acc H2 N N0 hx s2 hacc hI hN hN0
        obtain ⟨e, he, hr⟩ := paired_get hP hx
        refine gnE ⟨rfl, ?_⟩
        refine ⟨_, rfl, x, e, rfl, hS _ _ _ _ s2 hr, fun v' H3 s3 h3 hf => ?_⟩
        have hacc3 := s3 _ _ hacc
        have nD : ∀ a, v' = .ref a → a ≠ D := fun a e z => by
          have := hf a e
          rw [z, hacc] at this
          cases this
        refine hN _ _ s3 fun H5 b5 _ => ?_
        rw [take_get he]
        exact Paired.snoc (Paired.mapP hI fun _ _ z => ⟨hB _ _ D acc _ _ hacc3 z.2 b5 (hS _ _ _ _ s3 z.1), z.2⟩) ⟨hB _ _ D acc _ _ hacc3 nD b5 h3, nD⟩
      · rintro acc H2 s2 hacc _ hI
        rw [hxl, List.take_length] at hI
        refine ⟨D, acc, rfl, .inl ⟨SqL.of hacc, fun l hl => ?_⟩⟩
        obtain ⟨s3, g3⟩ := new2 (.tup acc) hl
        exact k _ _ (s2.trans s3) ⟨l, acc, rfl, g3, Paired.mapP hI fun _ _ z => hS _ _ _ _ s3 z.1, hz⟩ fun a e => by cases e; exact none_of s2 hl
theorem ok_dp1 (T : Txt w K mg) : Ok P w K mg base CX0 2 "_law_deep" ["thing"] (spDp PairT) :=
  (dp_gen (n := 1) false T (fun T => ok_dp0 T) (fun _ _ _ _ _ h => h) (fun _ _ _ _ _ _ _ _ _ h => h)).imp fun vs H Q E ⟨v, c, e, ⟨t, ev, ht⟩, k⟩ => ⟨v, [c.1, c.2], e, ⟨t, [.int c.1, .int c.2], ev, ht, .cons rfl (.cons rfl .nil), by show 2 ≤ 3000; decide⟩, fun v' H' s ⟨a, xs, e', h', p', _⟩ hf => k v' H' s (by
    cases p' with
    | cons x p => cases p with
      | cons y p => cases p with
        | nil =>
          rw [show _ = V.int c.1 from x, show _ = V.int c.2 from y] at h'
          exact ⟨a, e', h'⟩) hf⟩
theorem ok_dp2 (T : Txt w K mg) : Ok P w K mg base CX0 3 "_law_deep" ["thing"] (spDp (SeqOf true PairT)) :=
  dp_gen (n := 2) true T (fun T => ok_dp1 T) (fun _ _ _ _ e h => h.same e) (fun _ _ _ _ _ _ hD _ b h => h.but hD b)
theorem ok_dp3 (T : Txt w K mg) : Ok P w K mg base CX0 4 "_law_deep" ["thing"] (spDp (SeqOf true (SeqOf true PairT))) :=
  dp_gen (n := 3) true T (fun T => ok_dp2 T) (fun _ _ _ _ e ⟨a, xs, e1, h, p, z⟩ => ⟨a, xs, e1, e _ _ h, Paired.mapP p fun _ _ q => q.same e, z⟩) (fun _ _ _ _ _ _ hD hn b ⟨a, xs, e1, h, p, z⟩ => ⟨a, xs, e1, b _ _ h (hn a e1), Paired.mapP p fun _ _ q => q.but hD b, z⟩)
end
end K27
end
section
set_option maxRecDepth 100000
set_option maxHeartbeats 4000000
namespace L2
open PySem PySem.Spec PyProof.Rows
/-! ### an own exception of two fields raised -/
def spInit2 (C : Addr) (f g : Str) : Sp := fun vs H Q _ => ∃ (a : Addr) (v u : V), vs = [.ref a, v, u] ∧ H a = some (exo a C none) ∧
  ∀ dx, H dx = none → dx ≠ a → Q .non (upd (upd (upd H dx (exd dx [(f, v)])) a (exo a C (some dx))) dx (exd dx [(g, u), (f, v)]))
theorem mko2 {C : Addr} {f g : Str} {v u : V} {H : Hp} {Q : XK} (h : ∀ d, H d = none → Q (.ref C) (some d) (upd H d (.xd [(g, u), (f, v)]))) : ([v, u] : List V).length ≤ 1000 ∧ ∀ a, H a = none → spInit2 C f g (.ref a :: ([v, u] ++ [])) (upd H a (exo a C none))
    (fun x H2 => x = .non ∧ ∃ (d : Addr) (fs : List (Str × V)), H2 a = some (exo a C (some d)) ∧ H2 d = some (exd d fs) ∧ H d = none ∧ Q (.ref C) (some d) (upd (del H2 a) d (.xd fs))) (fun _ _ _ => False) := by
  refine ⟨by show 2 ≤ 1000; decide, fun a ha => ⟨a, v, u, rfl, upd_same, fun dx hd hne => ⟨rfl, dx, [(g, u), (f, v)], by rw [upd_ne hne.symm, upd_same], upd_same, ?_, ?_⟩⟩⟩
  · rw [upd_ne hne] at hd
    exact hd
  · have hd' : H dx = none := by rw [upd_ne hne] at hd; exact hd
    have e : upd (del (upd (upd (upd (upd H a (exo a C none)) dx (exd dx [(f, v)])) a (exo a C (some dx))) dx (exd dx [(g, u), (f, v)])) a) dx (.xd [(g, u), (f, v)]) = upd H dx (.xd [(g, u), (f, v)]) := by
      funext b
      by_cases hb : b = dx
      · rw [hb, upd_same, upd_same]
      · rw [upd_ne hb, upd_ne hb]
        by_cases hba : b = a
        · rw [hba, del_same, ha]
        · rw [del_ne hba, upd_ne hb, upd_ne hba, upd_ne hb, upd_ne hba]
    rw [e]
    exact h dx hd'
/-- E is told of an error of the class at C whose two fields are so -/
def Rz2 (E : XK) (H : Hp) (C : Addr) (f g : Str) (v u : V) : Prop := ∀ d H', Same H H' → H' d = some (.xd [(g, u), (f, v)]) → E (.ref C) (some d) H'
theorem Rz2.at {E : XK} {H H1 : Hp} {C : Addr} {f g : Str} {v u : V} (r : Rz2 E H C f g v u) (e : Same H H1) : ∀ d, H1 d = none → E (.ref C) (some d) (upd H1 d (.xd [(g, u), (f, v)])) := fun d hd => r d _ (e.trans (same_new hd)) upd_same
/-! ### comparisons of ints, by what they come to -/
section
variable {σ : St} {H0 : Hp} {t1 t2 : TE} {x y : Int}
theorem Ev.lt (h1 : Ev σ H0 t1 (.int x)) (h2 : Ev σ H0 t2 (.int y)) : Ev σ H0 (tOp (rI0 fun i j => .bl (decide (i < j))) t1 t2) (.bl (decide (x < y))) := Ev.i2 (f := fun i j => .bl (decide (i < j))) h1 h2
theorem Ev.le (h1 : Ev σ H0 t1 (.int x)) (h2 : Ev σ H0 t2 (.int y)) : Ev σ H0 (tOp (rI0 fun i j => .bl (decide (i ≤ j))) t1 t2) (.bl (decide (x ≤ y))) := Ev.i2 (f := fun i j => .bl (decide (i ≤ j))) h1 h2
theorem Ev.gt (h1 : Ev σ H0 t1 (.int x)) (h2 : Ev σ H0 t2 (.int y)) : Ev σ H0 (tOp (rI0 fun i j => .bl (decide (j < i))) t1 t2) (.bl (decide (y < x))) := Ev.i2 (f := fun i j => .bl (decide (j < i))) h1 h2
theorem Ev.ge (h1 : Ev σ H0 t1 (.int x)) (h2 : Ev σ H0 t2 (.int y)) : Ev σ H0 (tOp (rI0 fun i j => .bl (decide (j ≤ i))) t1 t2) (.bl (decide (y ≤ x))) := Ev.i2 (f := fun i j => .bl (decide (j ≤ i))) h1 h2
end
section
variable {K : PySem.W.Frag} {a D : Addr} {xs : List V} {g : TG} {tt : TT} {te : TE} {vs : List Nat} {σ : St} {H1 : Hp} {Q : Hp → Prop}
theorem lc_accL (hD : H1 D = none) (hS : SqL K H1 a xs) (hz : xs.length < 10000000) (Acc : Nat → List V → Hp → Prop) (h0 : ∀ H', Same H1 H' → Acc 0 [] H')
    (hs : ∀ i x acc H' (N : V → Hp → Prop) (N0 : Hp → Prop), xs[i]? = some x → Same H1 H' → H' D = some (.lst acc) → Acc i acc H' →
      (∀ y H4, Same H' H4 → (∀ H5, But D H4 H5 → H5 D = some (.lst (acc ++ [y])) → Acc (i + 1) (acc ++ [y]) H5) → N y H4) → (∀ H3, Same H' H3 → Acc (i + 1) acc H3 → N0 H3) →
      g x (wipe σ vs) H' fun σ2 H2 => wipe σ2 vs = wipe σ vs ∧ tt σ2 H2 fun b H3 => if b = true then te σ2 H3 N else N0 H3)
    (hd : ∀ acc H', Same H1 H' → H' D = some (.lst acc) → acc.length ≤ xs.length → Acc xs.length acc H' → Q H') :
    ∃ W : Nat → Nat → Hp → Prop, (∃ m, W 0 m (upd H1 D (.lst []))) ∧ ∀ i m H, W i m H →
      ((Itl K a).stop i H ∧ Q H) ∨ ((Itl K a).go i H ∧ ∃ Nx : Hp → Prop, (∀ H', Nx H' → ∃ m', m' < m ∧ W (i + 1) m' H') ∧ ∀ x H', (Itl K a).yld i H x H' → g x (wipe σ vs) H' fun σ2 H2 => wipe σ2 vs = wipe σ vs ∧ tt σ2 H2 fun b H3 =>
        if b = true then te σ2 H3 fun y H4 => ∃ acc, H4 D = some (.lst acc) ∧ acc.length < sizeLine ∧ Nx (upd H4 D (.lst (acc ++ [y]))) else Nx H3) := by
  refine lc_list (K := K) (a := a) (xs := xs) (fun i H' => Same H1 H' ∧ ∃ acc, H' D = some (.lst acc) ∧ acc.length ≤ i ∧ Acc i acc H') ⟨same_new hD, [], upd_same, Nat.le_refl _, h0 _ (same_new hD)⟩ (fun i H' _ h => h.1.seq hS) ?_ ?_
  · rintro i x H' hx ⟨e, acc, hacc, hl, ha⟩
    have hi : i < xs.length := (List.getElem?_eq_some_iff.mp hx).1
    refine hs i x acc H' _ _ hx e hacc ha (fun y H4 s4 a4 => ?_) (fun H3 s3 a3 => ?_)
    · exact ⟨acc, s4 _ _ hacc, Nat.lt_of_lt_of_le (show acc.length < 10000000 by omega) (by decide), same_mut (e.trans s4) hD, acc ++ [y], upd_same, by rw [List.length_append]; exact Nat.succ_le_succ hl, a4 _ (fun b o hb n => by rw [upd_ne n]; exact hb) upd_same⟩
    · exact ⟨e.trans s3, acc, s3 _ _ hacc, Nat.le_succ_of_le hl, a3⟩
  · rintro H' ⟨e, acc, hacc, hl, ha⟩
    exact hd acc H' e hacc hl ha
end
theorem yesE {te : TE} {σ : St} {H : Hp} {N : V → Hp → Prop} {N0 : Hp → Prop} (h : te σ H N) : tYes σ H fun b H3 => if b = true then te σ H3 N else N0 H3 := h
end L2
end
section
set_option maxRecDepth 100000
set_option maxHeartbeats 4000000
/-! ### spans, their days, and lots of stretches: plain -/
namespace L2
def insB (s c : Int × Int) : Bool := decide (s.1 < c.1) && decide (c.2 ≤ s.2)
def okDay (s c : Int × Int) (d : Int) : Bool := insB s c || (decide (d ≤ s.1) || decide (s.2 < d))
def okLot (lot : List (Int × Int)) (c : Int × Int) (d : Int) : Bool := lot.all fun s => okDay s c d
def daysO (T : Nat) (c : Int × Int) : List Int := (List.range (min c.2 (T : Int) + 1 - c.1).toNat).map fun (i : Nat) => c.1 + (i : Int)
def freeD (T : Nat) (lot : List (Int × Int)) (c : Int × Int) : Int := match (daysO T c).find? (okLot lot c) with
  | some d => d
  | none => if (T : Int) < c.2 then (T : Int) + 1 else 0
def optO (T : Nat) (c : Int × Int) : List (Option Int) := (daysO T c).map some ++ if (T : Int) < c.2 then [none] else []
def okO (lot : List (Int × Int)) (c : Int × Int) : Option Int → Bool
  | some d => okLot lot c d
  | none => true
def optOf (T : Nat) (d : Int) : Option Int := if d ≤ (T : Int) then some d else none
theorem mem_daysO {T : Nat} {c : Int × Int} {d : Int} : d ∈ daysO T c ↔ c.1 ≤ d ∧ d ≤ c.2 ∧ d ≤ (T : Int) := by
  unfold daysO
  rw [List.mem_map]
  constructor
  · rintro ⟨i, hi, rfl⟩
    have := List.mem_range.mp hi
    omega
  · intro h
    exact ⟨(d - c.1).toNat, List.mem_range.mpr (by omega), by omega⟩
theorem mem_optO_some {T : Nat} {c : Int × Int} {d : Int} : some d ∈ optO T c ↔ c.1 ≤ d ∧ d ≤ c.2 ∧ d ≤ (T : Int) := by
  unfold optO
  rw [List.mem_append, List.mem_map]
  constructor
  · rintro (⟨e, he, h⟩ | h)
    · cases h
      exact mem_daysO.mp he
    · split at h
      · simp at h
      · cases h
  · intro h
    exact .inl ⟨d, mem_daysO.mpr h, rfl⟩
theorem mem_optO_none {T : Nat} {c : Int × Int} : none ∈ optO T c ↔ (T : Int) < c.2 := by
  unfold optO
  rw [List.mem_append, List.mem_map]
  constructor
  · rintro (⟨e, _, h⟩ | h)
    · cases h
    · split at h
      · assumption
      · cases h
  · intro h
    exact .inr (by rw [if_pos h]; exact List.mem_singleton.mpr rfl)
theorem freeD_is {T : Nat} {lot : List (Int × Int)} {c : Int × Int} {i : Nat} (hi : i < (min c.2 (T : Int) + 1 - c.1).toNat) (hp : okLot lot c (c.1 + (i : Int)) = true) (hn : ∀ j, j < i → okLot lot c (c.1 + (j : Int)) = false) : freeD T lot c = c.1 + (i : Int) := by
  have : (daysO T c).find? (okLot lot c) = some (c.1 + (i : Int)) := by
    unfold daysO
    rw [List.find?_map]
    have : (List.range (min c.2 (T : Int) + 1 - c.1).toNat).find? (okLot lot c ∘ fun (i : Nat) => c.1 + (i : Int)) = some i := by
      rw [List.find?_range_eq_some]
      exact ⟨hp, List.mem_range.mpr hi, fun j hj => by simp [Function.comp, hn j hj]⟩
    rw [this]
    rfl
  unfold freeD
  rw [this]
theorem freeD_no {T : Nat} {lot : List (Int × Int)} {c : Int × Int} (hn : ∀ j, j < (min c.2 (T : Int) + 1 - c.1).toNat → okLot lot c (c.1 + (j : Int)) = false) : freeD T lot c = if (T : Int) < c.2 then (T : Int) + 1 else 0 := by
  have : (daysO T c).find? (okLot lot c) = none := by
    rw [List.find?_eq_none]
    intro d hd
    unfold daysO at hd
    obtain ⟨j, hj, rfl⟩ := List.mem_map.mp hd
    rw [hn j (List.mem_range.mp hj)]
    exact fun z => by cases z
  unfold freeD
  rw [this]
theorem freeD_cases {T : Nat} {lot : List (Int × Int)} {c : Int × Int} (h1 : 1 ≤ c.1) :
    (freeD T lot c = 0 ∧ ∀ o ∈ optO T c, okO lot c o = false) ∨ (1 ≤ freeD T lot c ∧ freeD T lot c ≤ (T : Int) + 1 ∧ optOf T (freeD T lot c) ∈ optO T c ∧ okO lot c (optOf T (freeD T lot c)) = true) := by
  unfold freeD
  cases e : (daysO T c).find? (okLot lot c) with
  | some d =>
    have hm := mem_daysO.mp (List.mem_of_find?_eq_some e)
    have hp := List.find?_some e
    refine .inr ?_
    show 1 ≤ d ∧ d ≤ (T : Int) + 1 ∧ optOf T d ∈ optO T c ∧ okO lot c (optOf T d) = true
    have : optOf T d = some d := by unfold optOf; rw [if_pos hm.2.2]
    rw [this]
    exact ⟨by omega, by omega, mem_optO_some.mpr hm, hp⟩
  | none =>
    rw [List.find?_eq_none] at e
    show (_ ∧ _) ∨ _
    by_cases h : (T : Int) < c.2
    · refine .inr ?_
      show 1 ≤ (if (T : Int) < c.2 then (T : Int) + 1 else 0) ∧ (if (T : Int) < c.2 then (T : Int) + 1 else 0) ≤ (T : Int) + 1 ∧ optOf T (if (T : Int) < c.2 then (T : Int) + 1 else 0) ∈ optO T c ∧ okO lot c (optOf T (if (T : Int) < c.2 then (T : Int) + 1 else 0)) = true
      rw [if_pos h]
      have : optOf T ((T : Int) + 1) = none := by unfold optOf; rw [if_neg (by omega)]
      rw [this]
      exact ⟨by omega, by omega, mem_optO_none.mpr h, rfl⟩
    · refine .inl ⟨?_, fun o ho => ?_⟩
      · show (if (T : Int) < c.2 then (T : Int) + 1 else 0) = 0
        rw [if_neg h]
      · cases o with
        | none => exact absurd (mem_optO_none.mp ho) h
        | some d =>
          have := e d (mem_daysO.mpr (mem_optO_some.mp ho))
          show okLot lot c d = false
          simpa using this
theorem freeD_zero {T : Nat} {lot : List (Int × Int)} {c : Int × Int} (h1 : 1 ≤ c.1) : freeD T lot c = 0 ↔ ∀ o ∈ optO T c, okO lot c o = false := by
  rcases freeD_cases (T := T) (lot := lot) h1 with ⟨h, k⟩ | ⟨h, _, k1, k2⟩
  · exact ⟨fun _ => k, fun _ => h⟩
  · refine ⟨fun z => by omega, fun z => ?_⟩
    rw [z _ k1] at k2
    cases k2
/-- a stretch of its own is borne by every span -/
theorem one_ok {T : Nat} {s c : Int × Int} (h0 : 0 ≤ s.1) (h2 : s.1 < s.2) (h3 : s.2 ≤ (T : Int)) (h4 : 1 ≤ c.1) (h5 : c.1 ≤ c.2) : ∃ o ∈ optO T c, okO [s] c o = true := by
  have one : ∀ d, okO [s] c (some d) = okDay s c d := fun d => by show ([s].all fun s => okDay s c d) = _; simp
  by_cases hi : insB s c = true
  · refine ⟨some c.1, mem_optO_some.mpr ?_, ?_⟩
    · unfold insB at hi
      simp only [Bool.and_eq_true, decide_eq_true_eq] at hi
      omega
    · rw [one]
      unfold okDay
      rw [hi]
      rfl
  · unfold insB at hi
    simp only [Bool.and_eq_true, decide_eq_true_eq] at hi
    by_cases hf : c.1 ≤ s.1
    · refine ⟨some c.1, mem_optO_some.mpr (by omega), ?_⟩
      rw [one]
      unfold okDay
      rw [decide_eq_true hf]
      simp
    · by_cases hT : (T : Int) < c.2
      · exact ⟨none, mem_optO_none.mpr hT, rfl⟩
      · refine ⟨some c.2, mem_optO_some.mpr (by omega), ?_⟩
        rw [one]
        unfold okDay
        rw [decide_eq_true (p := s.2 < c.2) (by omega)]
        simp
/-! ### weathers of chosen days -/
def repN (os : List (Option Int)) (n k : Nat) : List (Int × Int) := ((List.range n).filter fun at_ => decide (os[at_]? = some (some ((k : Int) + 1)))).map fun (at_ : Nat) => ((at_ : Int) + 1, (1 : Int))
def wayR (T : Nat) (os : List (Option Int)) (n : Nat) : List (List (Int × Int)) := (List.range T).map (repN os n)
theorem repN_succ {os : List (Option Int)} {n k : Nat} : repN os (n + 1) k = repN os n k ++ if os[n]? = some (some ((k : Int) + 1)) then [((n : Int) + 1, 1)] else [] := by
  unfold repN
  rw [List.range_succ, List.filter_append, List.map_append, List.filter_cons]
  by_cases h : os[n]? = some (some ((k : Int) + 1))
  · rw [if_pos h, if_pos (decide_eq_true h)]
    rfl
  · rw [if_neg h, if_neg (fun z => h (of_decide_eq_true z))]
    rfl
theorem wayR_len {T : Nat} {os : List (Option Int)} {n : Nat} : (wayR T os n).length = T := by unfold wayR; rw [List.length_map, List.length_range]
theorem wayR_get {T : Nat} {os : List (Option Int)} {n k : Nat} (hk : k < T) : (wayR T os n)[k]? = some (repN os n k) := by
  unfold wayR
  rw [List.getElem?_map, List.getElem?_range hk]
  rfl
theorem wayR_zero {T : Nat} {os : List (Option Int)} : wayR T os 0 = List.replicate T [] := by
  apply List.ext_getElem?
  intro k
  by_cases hk : k < T
  · rw [wayR_get hk, List.getElem?_replicate, if_pos hk]
    rfl
  · rw [List.getElem?_eq_none (by rw [wayR_len]; omega), List.getElem?_eq_none (by rw [List.length_replicate]; omega)]
theorem wayR_skip {T : Nat} {os : List (Option Int)} {n : Nat} (h : ∀ k : Nat, k < T → os[n]? ≠ some (some ((k : Int) + 1))) : wayR T os (n + 1) = wayR T os n := by
  apply List.ext_getElem?
  intro k
  by_cases hk : k < T
  · rw [wayR_get hk, wayR_get hk, repN_succ, if_neg (h k hk), List.append_nil]
  · rw [List.getElem?_eq_none (by rw [wayR_len]; omega), List.getElem?_eq_none (by rw [wayR_len]; omega)]
theorem wayR_put {T : Nat} {os : List (Option Int)} {n k : Nat} (h : os[n]? = some (some ((k : Int) + 1))) (hk : k < T) : wayR T os (n + 1) = (wayR T os n).set k (repN os n k ++ [((n : Int) + 1, 1)]) := by
  apply List.ext_getElem?
  intro j
  by_cases hj : j < T
  · rw [wayR_get hj]
    by_cases e : j = k
    · subst e
      rw [List.getElem?_set_self (by rw [wayR_len]; exact hj), repN_succ, if_pos h]
    · rw [List.getElem?_set_ne (by omega), wayR_get hj, repN_succ, if_neg, List.append_nil]
      rw [h]
      intro z
      injection z with z
      injection z with z
      omega
  · rw [List.getElem?_eq_none (by rw [wayR_len]; omega), List.getElem?_eq_none (by rw [List.length_set, wayR_len]; omega)]
theorem mem_repN {os : List (Option Int)} {n k : Nat} {c : Int × Int} : c ∈ repN os n k ↔ ∃ at_ : Nat, at_ < n ∧ os[at_]? = some (some ((k : Int) + 1)) ∧ c = ((at_ : Int) + 1, 1) := by
  unfold repN
  rw [List.mem_map]
  constructor
  · rintro ⟨a, h, rfl⟩
    rw [List.mem_filter, List.mem_range, decide_eq_true_eq] at h
    exact ⟨a, h.1, h.2, rfl⟩
  · rintro ⟨a, h1, h2, rfl⟩
    exact ⟨a, by rw [List.mem_filter, List.mem_range, decide_eq_true_eq]; exact ⟨h1, h2⟩, rfl⟩
theorem repN_le {os : List (Option Int)} {n k : Nat} : (repN os n k).length ≤ n := by
  unfold repN
  rw [List.length_map]
  have := List.length_filter_le (fun at_ : Nat => decide (os[at_]? = some (some ((k : Int) + 1)))) (List.range n)
  rw [List.length_range] at this
  exact this
def allN (T : Nat) (ws : List (Int × Int)) : Nat → List (List (Option Int))
  | 0 => [[]]
  | n + 1 => (allN T ws n).flatMap fun fs => (optO T (ws.getD n (0, 0))).map fun o => fs ++ [o]
theorem mem_allN {T : Nat} {ws : List (Int × Int)} : ∀ {n : Nat} {os : List (Option Int)}, os ∈ allN T ws n ↔ os.length = n ∧ ∀ i, i < n → ∃ o, os[i]? = some o ∧ o ∈ optO T (ws.getD i (0, 0))
  | 0, os => by
    unfold allN
    rw [List.mem_singleton]
    constructor
    · rintro rfl
      exact ⟨rfl, fun i h => by omega⟩
    · rintro ⟨h, _⟩
      exact List.length_eq_zero_iff.mp h
  | n + 1, os => by
    unfold allN
    rw [List.mem_flatMap]
    constructor
    · rintro ⟨fs, hf, h⟩
      obtain ⟨o, ho, rfl⟩ := List.mem_map.mp h
      obtain ⟨h1, h2⟩ := mem_allN.mp hf
      refine ⟨by rw [List.length_append, h1]; rfl, fun i hi => ?_⟩
      by_cases e : i = n
      · refine ⟨o, ?_, by rw [e]; exact ho⟩
        rw [e, List.getElem?_append_right (by omega), h1]
        simp
      · obtain ⟨o', q1, q2⟩ := h2 i (by omega)
        exact ⟨o', by rw [List.getElem?_append_left (by omega)]; exact q1, q2⟩
    · rintro ⟨h1, h2⟩
      obtain ⟨o, q1, q2⟩ := h2 n (by omega)
      refine ⟨os.take n, mem_allN.mpr ⟨by rw [List.length_take]; omega, fun i hi => ?_⟩, List.mem_map.mpr ⟨o, q2, ?_⟩⟩
      · obtain ⟨o', r1, r2⟩ := h2 i (by omega)
        exact ⟨o', by rw [List.getElem?_take_of_lt hi]; exact r1, r2⟩
      · have := take_get q1
        rw [List.take_of_length_le (by omega)] at this
        exact this.symm
/-- choosing a day for each -/
theorem choose_all {T : Nat} {ws : List (Int × Int)} {p : Int × Int → Option Int → Prop} (h : ∀ c ∈ ws, ∃ o ∈ optO T c, p c o) : ∃ os ∈ allN T ws ws.length, ∀ (i : Nat) (c : Int × Int) (o : Option Int), ws[i]? = some c → os[i]? = some o → p c o := by
  have : ∀ n, n ≤ ws.length → ∃ os ∈ allN T ws n, ∀ (i : Nat) (c : Int × Int) (o : Option Int), ws[i]? = some c → os[i]? = some o → p c o := by
    intro n
    induction n with
    | zero => exact fun _ => ⟨[], List.mem_singleton.mpr rfl, fun i c o _ h => by simp at h⟩
    | succ n ih =>
      intro hn
      obtain ⟨os, h1, h2⟩ := ih (by omega)
      have hl := (mem_allN.mp h1).1
      have hc : ws[n]? = some ws[n] := List.getElem?_eq_getElem _
      obtain ⟨o, ho, hp⟩ := h ws[n] (List.getElem_mem _)
      refine ⟨os ++ [o], ?_, fun i c o' hi ho' => ?_⟩
      · unfold allN
        rw [List.mem_flatMap]
        refine ⟨os, h1, List.mem_map.mpr ⟨o, ?_, rfl⟩⟩
        rw [List.getD_eq_getElem?_getD, hc]
        exact ho
      · by_cases e : i < os.length
        · rw [List.getElem?_append_left e] at ho'
          exact h2 i c o' hi ho'
        · rw [List.getElem?_append_right (by omega)] at ho'
          have : i = os.length := by
            by_cases e2 : i = os.length
            · exact e2
            · rw [List.getElem?_eq_none (by show 1 ≤ _; omega)] at ho'
              cases ho'
          subst this
          rw [hl, hc] at hi
          cases hi
          simp at ho'
          cases ho'
          exact hp
  exact this ws.length (Nat.le_refl _)
end L2
end
section
set_option maxRecDepth 100000
set_option maxHeartbeats 4000000
namespace K27
open PySem PySem.Spec PyProof.Rows L2
/-- what a rain may do, as a value -/
def OptX (H : Hp) (z : V) : Option Int → Prop
  | none => z = .non
  | some d => ∃ t, z = .ref t ∧ H t = some (.tup [.int d, .int 1])
theorem OptX.same {H H' : Hp} (e : Same H H') {z : V} {o : Option Int} (h : OptX H z o) : OptX H' z o := by
  cases o with
  | none => exact h
  | some d =>
    obtain ⟨t, rfl, h⟩ := h
    exact ⟨t, rfl, e _ _ h⟩
theorem OptX.but {H H' : Hp} {l : Addr} {xs : List V} (hl : H l = some (.lst xs)) (e : But l H H') {z : V} {o : Option Int} (h : OptX H z o) : OptX H' z o := by
  cases o with
  | none => exact h
  | some d =>
    obtain ⟨t, rfl, h⟩ := h
    exact ⟨t, rfl, e _ _ h fun z => by rw [z, hl] at h; cases h⟩
theorem OptX.mut {H : Hp} {l : Addr} {xs : List V} {u : HO} (hl : H l = some (.lst xs)) {z : V} {o : Option Int} (h : OptX H z o) : OptX (upd H l u) z o := h.but hl (But.refl l H).upd
def dO (c : Int × Int) (i : Nat) : List (Option Int) := (List.range i).map fun (j : Nat) => some (c.1 + (j : Int))
theorem dO_succ {c : Int × Int} {i : Nat} : dO c (i + 1) = dO c i ++ [some (c.1 + (i : Int))] := by
  unfold dO
  rw [List.range_succ, List.map_append]
  rfl
theorem dO_len {c : Int × Int} {i : Nat} : (dO c i).length = i := by unfold dO; rw [List.length_map, List.length_range]
section
variable {P : Program} {w : World} {K : PySem.W.Frag} {mg : Str → Option Value} {base : Heap}
def spOptX : Sp := fun vs H Q _ => ∃ (T : Nat) (x : V) (c : Int × Int), vs = [.int T, x, .bl false] ∧ QuadT H x (canR c) ∧ T ≤ 24 ∧ 1 ≤ c.1 ∧ c.1 ≤ c.2 ∧ c.1 ≤ (T : Int) + 1 ∧ c.2 ≤ 100 ∧ ∀ l ys H', H l = none → Same H H' → H' l = some (.lst ys) → Paired (OptX H') ys (optO T c) → Q (.ref l) H'
theorem ok__law_options (T : Txt w K mg) : Ok P w K mg base CX0 1 "_law_options" ["days", "rain", "thin"] spOptX := by
  refine Ok.def0 (f__law_options T) (fun _ _ _ _ _ _ us hl => match us, hl with | [_, _, _], _ => rfl) sc__law_options (fun vs H Q E h => ?_) (fun f cdv A outer s H vs Q E hr h => ?_)
  · obtain ⟨TT, x, c, rfl, _⟩ := h
    rfl
  · obtain ⟨TT, x, c, rfl, hq, hT, h1, h2, h3, h4, k⟩ := h
    refine ⟨_, (pss_cons (ps_set (i := 3) sc__law_options.nd rfl (by first | exact Or.inl rfl | exact Or.inr rfl) (pe_lst pa_nil))
      (pss_cons (ps_set (i := 4) sc__law_options.nd rfl (by first | exact Or.inl rfl | exact Or.inr rfl) (pe_ifExp (pt_val (pv 2)) (pe_op op_cat (pe_lst (pa_cons (pe_ix (ix_seqK (K := K) rfl) (pv 1) pe_int (fun _ _ => rfl)) pa_nil)) (pe_ifExp (pt_cmpR op_gt (pe_ix (ix_seqK (K := K) rfl) (pv 1) pe_int (fun _ _ => rfl)) (pe_ix (ix_seqK (K := K) rfl) (pv 1) pe_int (fun _ _ => rfl)) (nomark _)) (pe_lst (pa_cons (pe_ix (ix_seqK (K := K) rfl) (pv 1) pe_int (fun _ _ => rfl)) pa_nil)) (pe_lst pa_nil))) (pe_listRg rfl rfl (n_list T) (prg_2 rfl (n_range T) (pe_ix (ix_seqK (K := K) rfl) (pv 1) pe_int (fun _ _ => rfl)) (pe_op op_add (pe_ix (ix_seqK (K := K) rfl) (pv 1) pe_int (fun _ _ => rfl)) pe_int)))))
      (pss_cons (ps_for PassesOwn.never rfl (pi_range2 rfl (n_range T) (pa_cons (pe_ix (ix_seqK (K := K) rfl) (pv 1) pe_int (fun _ _ => rfl)) (pa_cons (pe_op op_add (pe_callB (call_min2 rfl) rfl (n_min T) (by decide +kernel) (pa_cons (pe_ix (ix_seqK (K := K) rfl) (pv 1) pe_int (fun _ _ => rfl)) (pa_cons (pv 0) pa_nil))) pe_int) pa_nil))) (pg_name (i := 5) sc__law_options.nd rfl (by first | exact Or.inl rfl | exact Or.inr rfl))
        (pss_one (ps_for PassesOwn.never rfl (pi_listK (K := K) rfl (pv 4)) (pg_name (i := 6) sc__law_options.nd rfl (by first | exact Or.inl rfl | exact Or.inr rfl))
        (pss_one (ps_expr (pe_bm PySem.F.plainAttrs_list PySem.F.slot_list_append PySem.F.type_list_append mt_append (pv 3) (pa_cons (pe_tup (pa_cons (pv 5) (pa_cons (pv 6) pa_nil))) pa_nil)))))))
      (pss_cons (ps_if (pt_cmpR op_gt (pe_ix (ix_seqK (K := K) rfl) (pv 1) pe_int (fun _ _ => rfl)) (pv 0) (nomark _)) (pss_one (ps_expr (pe_bm PySem.F.plainAttrs_list PySem.F.slot_list_append PySem.F.type_list_append mt_append (pv 3) (pa_cons pe_non pa_nil)))) pss_nil)
      (pss_one (ps_ret (pv 3))))))), ?_⟩
    refine ⟨(by show 0 ≤ sizeLine; decide), fun fl hfl => ?_⟩
    obtain ⟨s1, g1⟩ := new2 (.lst []) hfl
    have hq1 := hq.same s1
    refine ⟨_, rfl, _, rfl, iteF ⟨_, rfl, hq1.ix (i := 2) rfl ⟨_, rfl, hq1.ix (i := 3) rfl ⟨_, _, rfl, rfl, _, _, rfl, rfl, ?_, fun cl hcl => ?_⟩⟩⟩⟩
    · exact RgOk.of_le (by show (0 : Int) ≤ 1; decide) (by show (1 : Int) + 1 ≤ 16777216; decide) (by show (1 : Int) ≤ 16777216; decide) (by show (0 : Int) ≤ 1 + 1; decide)
    obtain ⟨s2, g2⟩ := new2 (.lst (rgV (canR c).2.2.1 ((canR c).2.2.2 + 1))) hcl
    have er : rgV (canR c).2.2.1 ((canR c).2.2.2 + 1) = [V.int 1] := rfl
    rw [er] at s2 g2 ⊢
    have f1 := s2 _ _ g1
    have e2 := s1.trans s2
    have nfc : fl ≠ cl := fun z => by rw [← z] at hcl; rw [hcl] at g1; cases g1
    generalize upd (upd H fl (.lst [])) cl (.lst [V.int 1]) = H2 at s2 g2 f1 e2 ⊢
    have hq2 := hq1.same s2
    refine ⟨_, rfl, hq2.ix (i := 0) rfl ⟨_, rfl, hq2.ix (i := 1) rfl ⟨_, rfl, _, _, rfl, _, _, rfl, rfl, ?_⟩⟩⟩
    have hmn : (if (TT : Int) < c.2 then (TT : Int) else c.2) = min c.2 (TT : Int) := by omega
    have emn : (if (TT : Int) < (canR c).2.1 then (TT : Int) else (canR c).2.1) = min c.2 (TT : Int) := hmn
    obtain ⟨mn, hmq⟩ : ∃ mn, min c.2 (TT : Int) = mn := ⟨_, rfl⟩
    rw [hmq] at emn
    have hL : dO c (mn + 1 - c.1).toNat = (daysO TT c).map some := by
      unfold dO daysO
      rw [List.map_map, hmq]
      rfl
    have hLn : (mn + 1 - c.1).toNat ≤ TT := by omega
    refine ⟨(canR c).1, (if (TT : Int) < (canR c).2.1 then (TT : Int) else (canR c).2.1) + 1, rfl, ?_, ?_⟩
    · rw [emn]
      show -2 ^ 62 ≤ c.1 ∧ c.1 < 2 ^ 62 ∧ -2 ^ 62 ≤ mn + 1 ∧ mn + 1 < 2 ^ 62
      omega
    rw [emn]
    refine for_upto (lo := c.1) (L := (mn + 1 - c.1).toNat) rfl (fun i σ H' => ∃ v5 v6 ys, σ = [some (.int TT), some x, some (.bl false), some (.ref fl), some (.ref cl), v5, v6] ∧ Same H H' ∧ H' fl = some (.lst ys) ∧ H' cl = some (.lst [V.int 1]) ∧ Paired (OptX H') ys (dO c i)) ⟨_, _, [], rfl, e2, f1, g2, .nil⟩ ?_ ?_
    · rintro i σ H3 hi ⟨v5, v6, ys, rfl, e3, f3, c3, hys⟩
      refine gnE ?_
      refine ⟨_, rfl, cl, rfl, ⟨_, SqL.of c3⟩, for_list (K := K) (a := cl) (xs := [V.int 1]) (fun j σ H' => ∃ v6 ys, σ = [some (.int TT), some x, some (.bl false), some (.ref fl), some (.ref cl), some (.int (c.1 + (i : Int))), v6] ∧ Same H H' ∧ H' fl = some (.lst ys) ∧ H' cl = some (.lst [V.int 1]) ∧ Paired (OptX H') ys (dO c (i + j))) ⟨_, ys, rfl, e3, f3, c3, hys⟩ (fun _ _ _ _ ⟨_, _, _, _, _, z, _⟩ => SqL.of z) ?_ ?_⟩
      · rintro j y σ H4 hj ⟨v6, ys, rfl, e4, f4, c4, hys⟩
        have hj0 : j = 0 ∧ y = .int 1 := by
          cases j with
          | zero => exact ⟨rfl, by simpa using hj.symm⟩
          | succ j => simp at hj
        obtain ⟨rfl, rfl⟩ := hj0
        refine gnE ?_
        refine ⟨_, rfl, .inl ⟨rfl, _, SqL.of f4⟩, _, rfl, _, rfl, (by show 2 ≤ sizeLine; decide), fun t ht => ?_⟩
        obtain ⟨s5, g5⟩ := new2 (.tup [.int (c.1 + (i : Int)), .int 1]) ht
        have f5 := s5 _ _ f4
        have hyl : ys.length = i := by rw [Paired.length hys, dO_len]; rfl
        refine ⟨fl, ys, _, rfl, rfl, f5, line_lt (by omega), ?_⟩
        refine ⟨_, ys ++ [.ref t], rfl, same_mut (e4.trans s5) hfl, upd_same, by rw [upd_ne nfc.symm]; exact s5 _ _ c4, ?_⟩
        show Paired _ _ (dO c (i + 1))
        rw [dO_succ]
        exact Paired.snoc (Paired.mapP hys fun _ _ z => (z.same s5).mut f5) (OptX.mut (o := some (c.1 + (i : Int))) f5 ⟨t, rfl, g5⟩)
      · rintro σ H4 ⟨v6, ys, rfl, e4, f4, c4, hys⟩
        exact ⟨_, _, ys, rfl, e4, f4, c4, hys⟩
    · rintro σ H3 ⟨v5, v6, ys, rfl, e3, f3, c3, hys⟩
      have hyl : ys.length = (mn + 1 - c.1).toNat := by rw [Paired.length hys, dO_len]
      rw [hL] at hys
      refine ⟨_, rfl, (hq.same e3).ix (i := 1) rfl ⟨_, rfl, _, _, rfl, rfl, _, rfl, ?_⟩⟩
      show (if decide ((TT : Int) < c.2) = true then _ else _)
      cases q : decide ((TT : Int) < c.2) with
      | true =>
        refine ⟨_, rfl, .inl ⟨rfl, _, SqL.of f3⟩, fl, ys, _, rfl, rfl, f3, line_lt (by omega), ?_⟩
        refine ⟨_, rfl, k fl (ys ++ [.non]) _ hfl (same_mut e3 hfl) upd_same ?_⟩
        unfold optO
        rw [if_pos (of_decide_eq_true q)]
        exact Paired.snoc (Paired.mapP hys fun _ _ z => z.mut f3) rfl
      | false =>
        refine ⟨_, rfl, k fl ys _ hfl e3 f3 ?_⟩
        unfold optO
        rw [if_neg (of_decide_eq_false q), List.append_nil]
        exact hys
end
end K27
end
section
set_option maxRecDepth 100000
set_option maxHeartbeats 4000000
namespace K27
open PySem PySem.Spec PyProof.Rows L2
/-- a weather that is being made: its reports are lists of its own -/
def RepA (H : Hp) (r : Addr) (rep : List (Int × Int)) : Prop := ∃ xs, H r = some (.lst xs) ∧ Paired (PairT H) xs rep
theorem RepA.same {H H' : Hp} (e : Same H H') {r : Addr} {rep : List (Int × Int)} (h : RepA H r rep) : RepA H' r rep := by
  obtain ⟨xs, h1, h2⟩ := h
  exact ⟨xs, e _ _ h1, Paired.mapP h2 fun _ _ z => z.same e⟩
theorem paired_map {α β γ : Type} {F : β → γ → Prop} {g : α → β} : ∀ {l : List α} {m : List γ}, Paired (fun a c => F (g a) c) l m → Paired F (l.map g) m
  | _, _, .nil => .nil
  | _, _, .cons a b => .cons a (paired_map b)
theorem paired_set {α β : Type} {F G : α → β → Prop} {b : β} {a : α} {l : List α} {m : List β} (hp : Paired F l m) (k : ∀ x y, x ≠ a → F x y → G x y) (g : G a b) : ∀ {i : Nat}, l.Nodup → l[i]? = some a → Paired G l (m.set i b) := by
  induction hp with
  | nil => intro i _ e; simp at e
  | cons h t ih =>
    rename_i x y l' m'
    intro i hn e
    rw [List.nodup_cons] at hn
    cases i with
    | zero =>
      have : x = a := by simpa using e
      subst this
      refine .cons g ?_
      have : ∀ {l' : List α} {m' : List β}, x ∉ l' → Paired F l' m' → Paired G l' m' := fun {l' m'} hl hp => by
        induction hp with
        | nil => exact .nil
        | cons h _ ih =>
          rw [List.mem_cons, not_or] at hl
          exact .cons (k _ _ (fun z => hl.1 z.symm) h) (ih hl.2)
      exact this hn.1 t
    | succ i =>
      have e : l'[i]? = some a := by simpa using e
      exact .cons (k _ _ (fun z => hn.1 (by rw [z]; exact List.mem_of_getElem? e)) h) (ih hn.2 e)
theorem total_rep : ∀ n, total (List.replicate n ([] : List (Int × Int))) = 0
  | 0 => rfl
  | n + 1 => by
    rw [List.replicate_succ', total_app, total_rep n]
    rfl
theorem total_cons {rep : List (Int × Int)} {W : List (List (Int × Int))} : total (rep :: W) = rep.length + total W := by
  unfold total
  rw [List.map_cons, List.sum_cons]
theorem total_get : ∀ {W : List (List (Int × Int))} {i : Nat} {rep : List (Int × Int)}, W[i]? = some rep → rep.length ≤ total W
  | [], i, rep, h => by simp at h
  | r :: W, 0, rep, h => by
    have : r = rep := by simpa using h
    rw [total_cons, this]
    omega
  | r :: W, i + 1, rep, h => by
    have := total_get (W := W) (i := i) (rep := rep) (by simpa using h)
    rw [total_cons]
    omega
theorem total_set {c : Int × Int} : ∀ {W : List (List (Int × Int))} {i : Nat} {rep : List (Int × Int)}, W[i]? = some rep → total (W.set i (rep ++ [c])) = total W + 1
  | [], i, rep, h => by simp at h
  | r :: W, 0, rep, h => by
    have : r = rep := by simpa using h
    rw [List.set_cons_zero, total_cons, total_cons, this, List.length_append]
    show rep.length + 1 + _ = _
    omega
  | r :: W, i + 1, rep, h => by
    have := total_set (c := c) (W := W) (i := i) (rep := rep) (by simpa using h)
    rw [List.set_cons_succ, total_cons, total_cons, this]
    omega
theorem paired_setv {α β : Type} {R : α → β → Prop} {x : α} {y : β} (r : R x y) : ∀ (i : Nat) {xs : List α} {ys : List β}, Paired R xs ys → Paired R (xs.set i x) (ys.set i y)
  | _, _, _, .nil => .nil
  | 0, _, _, .cons a t => .cons r t
  | i + 1, _, _, .cons a t => .cons a (paired_setv r i t)
theorem paired_erase {α β : Type} {R : α → β → Prop} : ∀ (i : Nat) {xs : List α} {ys : List β}, Paired R xs ys → Paired R (xs.eraseIdx i) (ys.eraseIdx i)
  | _, _, _, .nil => .nil
  | 0, _, _, .cons a t => t
  | i + 1, _, _, .cons a t => .cons a (paired_erase i t)
theorem total_put {rep' : List (Int × Int)} : ∀ {W : List (List (Int × Int))} {i : Nat} {rep : List (Int × Int)}, W[i]? = some rep → total (W.set i rep') + rep.length = total W + rep'.length
  | [], i, rep, h => by simp at h
  | r :: W, 0, rep, h => by
    have : r = rep := by simpa using h
    rw [List.set_cons_zero, total_cons, total_cons, this]
    omega
  | r :: W, i + 1, rep, h => by
    have := total_put (rep' := rep') (W := W) (i := i) (rep := rep) (by simpa using h)
    rw [List.set_cons_succ, total_cons, total_cons]
    omega
theorem drew {H : Hp} {sa : Addr} (a b c : Int) : But sa H (upd H sa (stk a b c)) ∧ Stk (upd H sa (stk a b c)) sa := ⟨(But.refl sa H).upd, stk_upd⟩
theorem refs_ne {H : Hp} {sa D : Addr} {rs : List Addr} (hs : Stk H sa) (h : H D = some (.lst (rs.map V.ref))) : D ≠ sa := fun z => by
  obtain ⟨a, b, c, hs⟩ := hs
  rw [z, hs] at h
  have := HO.lst.inj (Option.some.inj h)
  cases rs with
  | nil => simp at this
  | cons r rs => simp at this
theorem rep_ne {H : Hp} {sa r : Addr} {xs : List V} {rep : List (Int × Int)} (hs : Stk H sa) (h : H r = some (.lst xs)) (hp : Paired (PairT H) xs rep) : r ≠ sa := fun z => by
  obtain ⟨a, b, c, hs⟩ := hs
  rw [z, hs] at h
  have := HO.lst.inj (Option.some.inj h)
  subst this
  cases hp with
  | cons r _ =>
    obtain ⟨q, e, _⟩ := r
    cases e
/-- a weather of its own lists, by their addresses -/
def WG (H0 H : Hp) (D : Addr) (rs : List Addr) (W : List (List (Int × Int))) : Prop := H D = some (.lst (rs.map V.ref)) ∧ rs.Nodup ∧ D ∉ rs ∧ (∀ r ∈ rs, H0 r = none) ∧ Paired (RepA H) rs W
theorem WG.same {H0 H H' : Hp} (e : Same H H') {D : Addr} {rs : List Addr} {W : List (List (Int × Int))} (h : WG H0 H D rs W) : WG H0 H' D rs W := by
  obtain ⟨h1, h2, h3, h4, h5⟩ := h
  exact ⟨e _ _ h1, h2, h3, h4, Paired.mapP h5 fun _ _ z => z.same e⟩
theorem WG.but {H0 H H' : Hp} {sa : Addr} (hs : Stk H sa) (b : But sa H H') {D : Addr} {rs : List Addr} {W : List (List (Int × Int))} (h : WG H0 H D rs W) : WG H0 H' D rs W := by
  obtain ⟨h1, h2, h3, h4, h5⟩ := h
  obtain ⟨x, y, z, hsa⟩ := id hs
  exact ⟨b _ _ h1 (refs_ne hs h1), h2, h3, h4, Paired.mapP h5 fun _ _ ⟨xs, q1, q2⟩ => ⟨xs, b _ _ q1 (rep_ne hs q1 q2), Paired.mapP q2 fun _ _ z => z.but hsa b⟩⟩
theorem WG.rep {H0 H : Hp} {D : Addr} {rs : List Addr} {W : List (List (Int × Int))} (h : WG H0 H D rs W) {i : Nat} {r : Addr} {rep : List (Int × Int)} (hr : rs[i]? = some r) (hw : W[i]? = some rep) : ∃ xs, H r = some (.lst xs) ∧ Paired (PairT H) xs rep := by
  obtain ⟨h1, h2, h3, h4, h5⟩ := h
  obtain ⟨rep', hrep', xs, q1, q2⟩ := paired_get h5 hr
  rw [hw] at hrep'
  cases hrep'
  exact ⟨xs, q1, q2⟩
theorem WG.edit {H0 H : Hp} {D : Addr} {rs : List Addr} {W : List (List (Int × Int))} (h : WG H0 H D rs W) {i : Nat} {r : Addr} {xs ys : List V} {rep : List (Int × Int)} (hr : rs[i]? = some r) (hx : H r = some (.lst xs)) (hp : Paired (PairT H) ys rep) : WG H0 (upd H r (.lst ys)) D rs (W.set i rep) := by
  obtain ⟨h1, h2, h3, h4, h5⟩ := h
  refine ⟨?_, h2, h3, h4, ?_⟩
  · rw [upd_ne fun z => h3 (by rw [z]; exact List.mem_of_getElem? hr)]
    exact h1
  · refine paired_set h5 (fun y z hy ⟨zs, p1, p2⟩ => ⟨zs, ?_, Paired.mapP p2 fun _ _ t => t.mut hx⟩) ⟨ys, upd_same, Paired.mapP hp fun _ _ t => t.mut hx⟩ h2 hr
    rw [upd_ne hy]
    exact p1
theorem WG.wea {H0 H : Hp} {D : Addr} {rs : List Addr} {W : List (List (Int × Int))} (h : WG H0 H D rs W) : WeaT H D W := by
  obtain ⟨h1, h2, h3, h4, h5⟩ := h
  exact ⟨_, h1, paired_map (Paired.mapP h5 fun r _ ⟨xs, q1, q2⟩ => ⟨r, xs, rfl, q1, q2⟩)⟩
theorem Ev.lenL {K : PySem.W.Frag} {σ : L2.St} {H0 : Hp} {t : TE} {p : Addr} {ys : List V} (h : Ev σ H0 t (.ref p)) (hl : H0 p = some (.lst ys)) : Ev σ H0 (tCB (fun xs H Q => ∃ p ys, xs = [V.ref p] ∧ (SqL K H p ys ∨ SqT K H p ys) ∧ Q (.int ys.length) H) (tCons t tNil)) (.int ys.length) := fun H' R s k =>
  h H' _ s fun H1 s1 => ⟨p, ys, rfl, .inl (SqL.of ((s.trans s1) _ _ hl)), k H1 s1⟩
/-- a weather whose lists are none of these -/
def WTX (S : Addr → Prop) (H : Hp) (y : V) (W : List (List (Int × Int))) : Prop := ∃ p rs, y = .ref p ∧ (∀ D, S D → p ≠ D) ∧ (∀ D, S D → D ∉ rs) ∧ H p = some (.lst (rs.map V.ref)) ∧ Paired (RepA H) rs W
theorem WTX.same {S : Addr → Prop} {H H' : Hp} (e : Same H H') {y : V} {W : List (List (Int × Int))} (h : WTX S H y W) : WTX S H' y W := by
  obtain ⟨p, rs, h1, h2, h3, h4, h5⟩ := h
  exact ⟨p, rs, h1, h2, h3, e _ _ h4, Paired.mapP h5 fun _ _ z => z.same e⟩
theorem WTX.but {S : Addr → Prop} {D : Addr} (hS : S D) {H H' : Hp} {xs : List V} (hD : H D = some (.lst xs)) (b : But D H H') {y : V} {W : List (List (Int × Int))} (h : WTX S H y W) : WTX S H' y W := by
  obtain ⟨p, rs, h1, h2, h3, h4, h5⟩ := h
  refine ⟨p, rs, h1, h2, h3, b _ _ h4 (h2 D hS), ?_⟩
  have : ∀ {l' : List Addr} {m' : List (List (Int × Int))}, D ∉ l' → Paired (RepA H) l' m' → Paired (RepA H') l' m' := fun {l' m'} hl hp => by
    induction hp with
    | nil => exact .nil
    | cons h _ ih =>
      rw [List.mem_cons, not_or] at hl
      obtain ⟨ys, q1, q2⟩ := h
      exact .cons ⟨ys, b _ _ q1 fun z => hl.1 z.symm, Paired.mapP q2 fun _ _ z => z.but hD b⟩ (ih hl.2)
  exact this (h3 D hS) h5
theorem WTX.wea {S : Addr → Prop} {H : Hp} {y : V} {W : List (List (Int × Int))} (h : WTX S H y W) : ∃ p, y = .ref p ∧ WeaT H p W := by
  obtain ⟨p, rs, h1, h2, h3, h4, h5⟩ := h
  exact ⟨p, h1, _, h4, paired_map (Paired.mapP h5 fun r _ ⟨xs, q1, q2⟩ => ⟨r, xs, rfl, q1, q2⟩)⟩
theorem WTX.mono {S S' : Addr → Prop} {H : Hp} {y : V} {W : List (List (Int × Int))} (h : WTX S H y W) (k : ∀ D, S' D → S D) : WTX S' H y W := by
  obtain ⟨p, rs, h1, h2, h3, r⟩ := h
  exact ⟨p, rs, h1, fun D d => h2 D (k D d), fun D d => h3 D (k D d), r⟩
theorem WTX.butS {S : Addr → Prop} {H H' : Hp} {sa : Addr} (hs : Stk H sa) (e : But sa H H') {y : V} {W : List (List (Int × Int))} (h : WTX S H y W) : WTX S H' y W := by
  obtain ⟨p, rs, h1, h2, h3, h4, h5⟩ := h
  obtain ⟨x, y, z, hsa⟩ := id hs
  exact ⟨p, rs, h1, h2, h3, e _ _ h4 (refs_ne hs h4), Paired.mapP h5 fun _ _ ⟨xs, q1, q2⟩ => ⟨xs, e _ _ q1 (rep_ne hs q1 q2), Paired.mapP q2 fun _ _ z => z.but hsa e⟩⟩
theorem WG.wtx {H0 H : Hp} {p : Addr} {rs : List Addr} {W : List (List (Int × Int))} (hp : H0 p = none) (h : WG H0 H p rs W) : WTX (fun D => H0 D ≠ none) H (.ref p) W := by
  obtain ⟨h1, h2, h3, h4, h5⟩ := h
  exact ⟨p, rs, rfl, fun D d z => d (by rw [← z]; exact hp), fun D d z => d (h4 D z), h1, h5⟩
end K27
end
section
set_option maxRecDepth 100000
set_option maxHeartbeats 4000000
namespace K27
open PySem PySem.Spec PyProof.Rows L2
section
variable {P : Program} {w : World} {K : PySem.W.Frag} {mg : Str → Option Value} {base : Heap}
/-- the days' empty lists, made -/
theorem rows_acc {H : Hp} {T : Nat} {D : Addr} {H2 : Hp} {acc : List V} (hd : ∃ rs : List Addr, acc = rs.map V.ref ∧ rs.Nodup ∧ D ∉ rs ∧ (∀ r ∈ rs, H r = none) ∧ Paired (RepA H2) rs (List.replicate T [])) (hacc : H2 D = some (.lst acc)) :
    ∃ rs : List Addr, acc = rs.map V.ref ∧ ∀ os : List (Option Int), WG H H2 D rs (wayR T os 0) := by
  obtain ⟨rs, rfl, h1, h2, h3, h4⟩ := hd
  refine ⟨rs, rfl, fun os => ⟨hacc, h1, h2, h3, ?_⟩⟩
  rw [wayR_zero]
  exact h4
theorem rows_step {H H2 : Hp} {D r : Addr} {acc : List V} {j : Nat} (s2 : Same H H2) (hacc : H2 D = some (.lst acc)) (hr : H2 r = none) (h : ∃ rs : List Addr, acc = rs.map V.ref ∧ rs.Nodup ∧ D ∉ rs ∧ (∀ r ∈ rs, H r = none) ∧ Paired (RepA H2) rs (List.replicate j [])) :
    ∀ H5, But D (upd H2 r (.lst [])) H5 → ∃ rs : List Addr, acc ++ [V.ref r] = rs.map V.ref ∧ rs.Nodup ∧ D ∉ rs ∧ (∀ r ∈ rs, H r = none) ∧ Paired (RepA H5) rs (List.replicate (j + 1) []) := by
  obtain ⟨rs, rfl, hnd, hDn, hr0, hp⟩ := h
  intro H5 b5
  obtain ⟨s3, g3⟩ := new2 (.lst []) hr
  have hrD : r ≠ D := fun z => by rw [z, hacc] at hr; cases hr
  refine ⟨rs ++ [r], by rw [List.map_append]; rfl, ?_, ?_, ?_, ?_⟩
  · rw [List.nodup_append]
    refine ⟨hnd, by simp, fun x hx y hy => ?_⟩
    rw [List.mem_singleton.mp hy]
    intro z
    obtain ⟨a, ha⟩ := List.getElem?_of_mem hx
    obtain ⟨_, _, ys, q, _⟩ := paired_get hp ha
    rw [z, hr] at q
    cases q
  · intro z
    rcases List.mem_append.mp z with z | z
    · exact hDn z
    · exact hrD (List.mem_singleton.mp z).symm
  · intro q hq
    rcases List.mem_append.mp hq with z | z
    · exact hr0 q z
    · rw [List.mem_singleton.mp z]
      exact none_of s2 hr
  · rw [List.replicate_succ']
    have hacc3 := s3 _ _ hacc
    refine Paired.append ?_ (.cons ⟨[], b5 _ _ g3 hrD, .nil⟩ .nil)
    have : ∀ {l' : List Addr} {m' : List (List (Int × Int))}, D ∉ l' → Paired (RepA H2) l' m' → Paired (RepA H5) l' m' := fun {l' m'} hl hp => by
      induction hp with
      | nil => exact .nil
      | cons h _ ih =>
        rw [List.mem_cons, not_or] at hl
        obtain ⟨ys, q1, q2⟩ := h
        exact .cons ⟨ys, b5 _ _ (s3 _ _ q1) fun z => hl.1 z.symm, Paired.mapP q2 fun _ _ z => (z.same s3).but hacc3 b5⟩ (ih hl.2)
    exact this hDn hp
/-- one more fall -/
theorem WG.fall {H0 H : Hp} {D : Addr} {rs : List Addr} {T n k : Nat} {os : List (Option Int)} (h : WG H0 H D rs (wayR T os n)) (ho : os[n]? = some (some ((k : Int) + 1))) (hk : k < T) : ∃ r zs, (rs.map V.ref)[k]? = some (V.ref r) ∧ H r = some (.lst zs) ∧ zs.length ≤ n ∧ H0 r = none ∧
    ∀ (H' : Hp) (x : V), Same H H' → PairT H' x ((n : Int) + 1, 1) → WG H0 (upd H' r (.lst (zs ++ [x]))) D rs (wayR T os (n + 1)) := by
  have hl : rs.length = T := by rw [Paired.length h.2.2.2.2, wayR_len]
  obtain ⟨r, hr⟩ : ∃ r, rs[k]? = some r := ⟨rs[k]'(by omega), List.getElem?_eq_getElem _⟩
  obtain ⟨zs, q1, q2⟩ := h.rep hr (wayR_get hk)
  have hzl := Paired.length q2
  refine ⟨r, zs, by rw [List.getElem?_map, hr]; rfl, q1, by rw [hzl]; exact repN_le, h.2.2.2.1 r (List.mem_of_getElem? hr), fun H' x e hx => ?_⟩
  rw [wayR_put ho hk]
  exact (h.same e).edit hr (e _ _ q1) (Paired.snoc (Paired.mapP q2 fun _ _ z => z.same e) hx)
def spWeaX : Sp := fun vs H Q _ => ∃ (T : Nat) (l : Addr) (xs : List V) (os : List (Option Int)), vs = [.int T, .ref l] ∧ H l = some (.lst xs) ∧ T ≤ 24 ∧ xs.length ≤ 40 ∧ Paired (OptX H) xs os ∧ (∀ d, some d ∈ os → 1 ≤ d ∧ d ≤ (T : Int)) ∧ ∀ p rs H', H p = none → Same H H' → WG H H' p rs (wayR T os os.length) → Q (.ref p) H'
theorem ok__law_weather (T : Txt w K mg) : Ok P w K mg base CX0 1 "_law_weather" ["days", "falls"] spWeaX := by
  refine Ok.def0 (f__law_weather T) (fun _ _ _ _ _ _ us hl => match us, hl with | [_, _], _ => rfl) sc__law_weather (fun vs H Q E h => ?_) (fun f cdv A outer s H vs Q E hr h => ?_)
  · obtain ⟨TT, l, xs, os, rfl, _⟩ := h
    rfl
  · obtain ⟨TT, l, xs, os, rfl, hl, hT, hxl, hx, hd, k⟩ := h
    refine ⟨_, (pss_cons (ps_setLc (i := 3) (own := [("day", 2)]) rfl sc__law_weather.nd rfl rfl (sw_true rfl rfl rfl (by decide +kernel)) (pi_range1 rfl (n_range T) (pa_cons (pv 0) pa_nil)) (blkOk_by (N := ["days", "falls", "day", "reports", "at"]) (sc := defScope s__law_weather) (by decide +kernel)) (fun _ _ _ _ _ => (pg_name (i := 2) sc__law_weather.nd rfl (by first | exact Or.inl rfl | exact Or.inr rfl))) (fun _ _ _ _ _ => pts_nil) (fun _ _ _ _ _ => (pe_lst pa_nil)))
      (pss_cons (ps_for PassesOwn.never rfl (pi_range1 rfl (n_range T) (pa_cons (pe_callB (len_seqK (K := K) rfl) rfl (n_len T) (by decide +kernel) (pa_cons (pv 1) pa_nil)) pa_nil)) (pg_name (i := 4) sc__law_weather.nd rfl (by first | exact Or.inl rfl | exact Or.inr rfl))
        (pss_one (ps_if (PW.pt (pw_and (pt_cmpR op_notN (pe_ix (ix_listK (K := K) rfl) (pv 1) (pv 4) (fun _ _ => rfl)) pe_non (nomark _)) (pw_and1 (pt_cmpR op_le (pe_ix (ix_seqK (K := K) rfl) (pe_ix (ix_listK (K := K) rfl) (pv 1) (pv 4) (fun _ _ => rfl)) pe_int (fun _ _ => rfl)) (pv 0) (nomark _))))) (pss_one (ps_expr (pe_bm PySem.F.plainAttrs_list PySem.F.slot_list_append PySem.F.type_list_append mt_append (pe_ix (ix_listK (K := K) rfl) (pv 3) (pe_op op_sub (pe_ix (ix_seqK (K := K) rfl) (pe_ix (ix_listK (K := K) rfl) (pv 1) (pv 4) (fun _ _ => rfl)) pe_int (fun _ _ => rfl)) pe_int) (fun _ _ => rfl)) (pa_cons (pe_tup (pa_cons (pe_op op_add (pv 4) pe_int) (pa_cons (pe_ix (ix_seqK (K := K) rfl) (pe_ix (ix_listK (K := K) rfl) (pv 1) (pv 4) (fun _ _ => rfl)) pe_int (fun _ _ => rfl)) pa_nil))) pa_nil)))) pss_nil)))
      (pss_one (ps_ret (pv 3))))), ?_⟩
    have hxo : xs.length = os.length := Paired.length hx
    refine ⟨_, rfl, _, rfl, by omega, by omega, fun D hD => lc_upto (lo := 0) (L := TT) (by omega) hD (by omega) (fun j acc H2 => ∃ rs : List Addr, acc = rs.map V.ref ∧ rs.Nodup ∧ D ∉ rs ∧ (∀ r ∈ rs, H r = none) ∧ Paired (RepA H2) rs (List.replicate j [])) (fun _ _ => ⟨([] : List Addr), rfl, List.nodup_nil, (by simp), (fun (r : Addr) (h : r ∈ ([] : List Addr)) => (by simp at h)), Paired.nil⟩) ?_ ?_⟩
    · rintro j acc H2 N N0 hj s2 hacc hI hN hN0
      refine ⟨rfl, (by show 0 ≤ sizeLine; decide), fun r hr_ => ?_⟩
      obtain ⟨s3, g3⟩ := new2 (.lst []) hr_
      exact hN _ _ s3 fun H5 b5 _ => rows_step s2 hacc hr_ hI H5 b5
    · rintro acc H2 s2 hacc hal hI
      obtain ⟨rs, rfl, hG⟩ := rows_acc hI hacc
      refine ⟨_, rfl, _, _, rfl, .inl (SqL.of (s2 _ _ hl)), _, rfl, by omega, by omega, for_upto (lo := 0) (L := xs.length) (by omega) (fun i σ H' => ∃ v4, σ = [some (.int TT), some (.ref l), none, some (.ref D), v4] ∧ Same H H' ∧ WG H H' D rs (wayR TT os i)) ⟨_, rfl, s2, hG os⟩ ?_ ?_⟩
      · rintro i σ H3 hi ⟨v4, rfl, e3, hG3⟩
        have z1 : (0 : Int) + (i : Int) = (i : Int) := by omega
        rw [z1]
        refine gnE ?_
        obtain ⟨y, hy⟩ : ∃ y, xs[i]? = some y := ⟨xs[i], List.getElem?_eq_getElem hi⟩
        have hl3 := e3 _ _ hl
        obtain ⟨o, ho, hyo⟩ := paired_get hx hy
        have hyo := hyo.same e3
        cases o with
        | none =>
          obtain rfl : y = .non := hyo
          refine ⟨_, rfl, _, rfl, l, xs, _, .non, rfl, rfl, SqL.of hl3, at_of rfl hy, rfl, _, rfl, ?_⟩
          rw [decide_eq_true rfl]
          refine ⟨_, rfl, e3, ?_⟩
          rw [wayR_skip fun k _ z => by rw [ho] at z; cases z]
          exact hG3
        | some d =>
          obtain ⟨t, rfl, ht⟩ := hyo
          obtain ⟨d1, d2⟩ := hd d (List.mem_of_getElem? ho)
          have hp : PairT H3 (.ref t) (d, 1) := ⟨t, rfl, ht⟩
          refine ⟨_, rfl, _, rfl, l, xs, _, .ref t, rfl, rfl, SqL.of hl3, at_of rfl hy, rfl, _, rfl, ?_⟩
          rw [decide_eq_false (fun z => by cases z)]
          refine ⟨_, rfl, _, rfl, l, xs, _, .ref t, rfl, rfl, SqL.of hl3, at_of rfl hy, hp.i0 ⟨_, rfl, _, _, rfl, rfl, _, rfl, ?_⟩⟩
          show (if decide (d ≤ (TT : Int)) = true then _ else _)
          rw [decide_eq_true d2]
          obtain ⟨n, rfl⟩ : ∃ n : Nat, d = (n : Int) + 1 := ⟨(d - 1).toNat, by omega⟩
          obtain ⟨r, zs, q2, q3, q4, q5, q6⟩ := hG3.fall ho (by omega)
          refine ⟨_, rfl, _, rfl, _, rfl, l, xs, _, .ref t, rfl, rfl, SqL.of hl3, at_of rfl hy, hp.i0 ⟨_, _, rfl, rfl, D, _, _, .ref r, rfl, rfl, SqL.of hG3.1, at_of (by show (n : Int) + 1 - 1 = _; omega) q2, .inl ⟨rfl, _, SqL.of q3⟩, ?_⟩⟩
          refine ⟨_, rfl, _, _, rfl, rfl, _, rfl, _, rfl, l, xs, _, .ref t, rfl, rfl, SqL.of hl3, at_of rfl hy, hp.i1 ⟨(by show 2 ≤ sizeLine; decide), fun u hu => ?_⟩⟩
          obtain ⟨s4, g4⟩ := new2 (.tup [.int ((i : Int) + 1), .int 1]) hu
          refine ⟨r, zs, _, rfl, rfl, s4 _ _ q3, line_lt (by omega), ?_⟩
          exact ⟨_, rfl, same_mut (e3.trans s4) q5, q6 _ _ s4 ⟨u, rfl, g4⟩⟩
      · rintro σ H3 ⟨v4, rfl, e3, hG3⟩
        rw [hxo] at hG3
        exact ⟨_, rfl, k D rs H3 hD e3 hG3⟩
def spPlaced : Sp := fun vs H Q _ => ∃ (T : Nat) (l : Addr) (ps : List Int), vs = [.int T, .ref l] ∧ H l = some (.lst (ps.map V.int)) ∧ T ≤ 24 ∧ ps.length ≤ 40 ∧ (∀ d ∈ ps, 1 ≤ d) ∧ ∀ p rs H', H p = none → Same H H' → WG H H' p rs (wayR T (ps.map (optOf T)) ps.length) → Q (.ref p) H'
theorem ok_placed_weather (T : Txt w K mg) : Ok P w K mg base CX0 1 "placed_weather" ["days", "places"] spPlaced := by
  refine Ok.def0 (f_placed_weather T) (fun _ _ _ _ _ _ us hl => match us, hl with | [_, _], _ => rfl) sc_placed_weather (fun vs H Q E h => ?_) (fun f cdv A outer s H vs Q E hr h => ?_)
  · obtain ⟨TT, l, ps, rfl, _⟩ := h
    rfl
  · obtain ⟨TT, l, ps, rfl, hl, hT, hxl, hd, k⟩ := h
    refine ⟨_, (pss_cons (ps_setLc (i := 3) (own := [("day", 2)]) rfl sc_placed_weather.nd rfl rfl (sw_true rfl rfl rfl (by decide +kernel)) (pi_range1 rfl (n_range T) (pa_cons (pv 0) pa_nil)) (blkOk_by (N := ["days", "places", "day", "weather", "at"]) (sc := defScope s_placed_weather) (by decide +kernel)) (fun _ _ _ _ _ => (pg_name (i := 2) sc_placed_weather.nd rfl (by first | exact Or.inl rfl | exact Or.inr rfl))) (fun _ _ _ _ _ => pts_nil) (fun _ _ _ _ _ => (pe_lst pa_nil)))
      (pss_cons (ps_for PassesOwn.never rfl (pi_range1 rfl (n_range T) (pa_cons (pe_callB (len_seqK (K := K) rfl) rfl (n_len T) (by decide +kernel) (pa_cons (pv 1) pa_nil)) pa_nil)) (pg_name (i := 4) sc_placed_weather.nd rfl (by first | exact Or.inl rfl | exact Or.inr rfl))
        (pss_one (ps_if (pt_cmpR op_le (pe_ix (ix_listK (K := K) rfl) (pv 1) (pv 4) (fun _ _ => rfl)) (pv 0) (nomark _)) (pss_one (ps_expr (pe_bm PySem.F.plainAttrs_list PySem.F.slot_list_append PySem.F.type_list_append mt_append (pe_ix (ix_listK (K := K) rfl) (pv 3) (pe_op op_sub (pe_ix (ix_listK (K := K) rfl) (pv 1) (pv 4) (fun _ _ => rfl)) pe_int) (fun _ _ => rfl)) (pa_cons (pe_tup (pa_cons (pe_op op_add (pv 4) pe_int) (pa_cons pe_int pa_nil))) pa_nil)))) pss_nil)))
      (pss_one (ps_ret (pv 3))))), ?_⟩
    have hml : (ps.map V.int).length = ps.length := List.length_map _
    refine ⟨_, rfl, _, rfl, by omega, by omega, fun D hD => lc_upto (lo := 0) (L := TT) (by omega) hD (by omega) (fun j acc H2 => ∃ rs : List Addr, acc = rs.map V.ref ∧ rs.Nodup ∧ D ∉ rs ∧ (∀ r ∈ rs, H r = none) ∧ Paired (RepA H2) rs (List.replicate j [])) (fun _ _ => ⟨([] : List Addr), rfl, List.nodup_nil, (by simp), (fun (r : Addr) (h : r ∈ ([] : List Addr)) => (by simp at h)), Paired.nil⟩) ?_ ?_⟩
    · rintro j acc H2 N N0 hj s2 hacc hI hN hN0
      refine ⟨rfl, (by show 0 ≤ sizeLine; decide), fun r hr_ => ?_⟩
      obtain ⟨s3, g3⟩ := new2 (.lst []) hr_
      exact hN _ _ s3 fun H5 b5 _ => rows_step s2 hacc hr_ hI H5 b5
    · rintro acc H2 s2 hacc hal hI
      obtain ⟨rs, rfl, hG⟩ := rows_acc hI hacc
      refine ⟨_, rfl, _, _, rfl, .inl (SqL.of (s2 _ _ hl)), _, rfl, by omega, by omega, for_upto (lo := 0) (L := ps.length) (by omega) (fun i σ H' => ∃ v4, σ = [some (.int TT), some (.ref l), none, some (.ref D), v4] ∧ Same H H' ∧ WG H H' D rs (wayR TT (ps.map (optOf TT)) i)) ⟨_, rfl, s2, hG _⟩ ?_ ?_⟩
      · rintro i σ H3 hi ⟨v4, rfl, e3, hG3⟩
        have z1 : (0 : Int) + (i : Int) = (i : Int) := by omega
        rw [z1]
        refine gnE ?_
        obtain ⟨d, hdi⟩ : ∃ d, ps[i]? = some d := ⟨ps[i], List.getElem?_eq_getElem hi⟩
        have hl3 := SqL.of (K := K) (e3 _ _ hl)
        have d1 := hd d (List.mem_of_getElem? hdi)
        have ho : (ps.map (optOf TT))[i]? = some (optOf TT d) := by rw [List.getElem?_map, hdi]; rfl
        have at1 : ∀ {Q : VK}, Q (.int d) H3 → rIxL K (.ref l) (.int (i : Int)) H3 Q := fun q => ⟨l, _, _, _, rfl, rfl, hl3, at_of rfl (ints_at hdi), q⟩
        refine ⟨_, rfl, _, rfl, at1 ⟨_, rfl, _, _, rfl, rfl, _, rfl, ?_⟩⟩
        cases q : decide (d ≤ (TT : Int)) with
        | false =>
          refine ⟨_, rfl, e3, ?_⟩
          rw [wayR_skip fun k _ z => by
            rw [ho] at z
            unfold optOf at z
            rw [if_neg (of_decide_eq_false q)] at z
            cases z]
          exact hG3
        | true =>
          have d2 := of_decide_eq_true q
          obtain ⟨n, rfl⟩ : ∃ n : Nat, d = (n : Int) + 1 := ⟨(d - 1).toNat, by omega⟩
          have ho' : (ps.map (optOf TT))[i]? = some (some ((n : Int) + 1)) := by
            rw [ho]
            unfold optOf
            rw [if_pos d2]
          obtain ⟨r, zs, q2, q3, q4, q5, q6⟩ := hG3.fall ho' (by omega)
          refine ⟨_, rfl, _, rfl, _, rfl, at1 ⟨_, _, rfl, rfl, D, _, _, .ref r, rfl, rfl, SqL.of hG3.1, at_of (by show (n : Int) + 1 - 1 = _; omega) q2, .inl ⟨rfl, _, SqL.of q3⟩, ?_⟩⟩
          refine ⟨_, rfl, _, _, rfl, rfl, (by show 2 ≤ sizeLine; decide), fun u hu => ?_⟩
          obtain ⟨s4, g4⟩ := new2 (.tup [.int ((i : Int) + 1), .int 1]) hu
          refine ⟨r, zs, _, rfl, rfl, s4 _ _ q3, line_lt (by omega), ?_⟩
          exact ⟨_, rfl, same_mut (e3.trans s4) q5, q6 _ _ s4 ⟨u, rfl, g4⟩⟩
      · rintro σ H3 ⟨v4, rfl, e3, hG3⟩
        exact ⟨_, rfl, k D rs H3 hD e3 hG3⟩
end
end K27
end
section
set_option maxRecDepth 100000
set_option maxHeartbeats 4000000
namespace K27
open PySem PySem.Spec PyProof.Rows L2
def FlsX (H : Hp) (y : V) (os : List (Option Int)) : Prop := ∃ a zs, y = .ref a ∧ H a = some (.lst zs) ∧ Paired (OptX H) zs os
theorem FlsX.same {H H' : Hp} (e : Same H H') {y : V} {os : List (Option Int)} (h : FlsX H y os) : FlsX H' y os := by
  obtain ⟨a, zs, rfl, h1, h2⟩ := h
  exact ⟨a, zs, rfl, e _ _ h1, Paired.mapP h2 fun _ _ z => z.same e⟩
theorem FlsX.mut {H : Hp} {l : Addr} {xs : List V} {o : HO} (hl : H l = some (.lst xs)) {y : V} {os : List (Option Int)} (hy : y ≠ .ref l) (h : FlsX H y os) : FlsX (upd H l o) y os := by
  obtain ⟨a, zs, rfl, h1, h2⟩ := h
  exact ⟨a, zs, rfl, by rw [upd_ne fun z => hy (by rw [z])]; exact h1, Paired.mapP h2 fun _ _ z => z.mut hl⟩
theorem optO_le {T : Nat} {c : Int × Int} (h : 1 ≤ c.1) : (optO T c).length ≤ T + 1 := by
  have : (daysO T c).length ≤ T := by
    unfold daysO
    rw [List.length_map, List.length_range]
    omega
  unfold optO
  rw [List.length_append, List.length_map]
  split
  · show _ + 1 ≤ _
    omega
  · show _ + 0 ≤ _
    omega
theorem flatMap_le {α β : Type} {f : α → List β} {k : Nat} : ∀ {l : List α}, (∀ x ∈ l, (f x).length ≤ k) → (l.flatMap f).length ≤ k * l.length
  | [], _ => Nat.zero_le _
  | x :: t, h => by
    have h1 := h x List.mem_cons_self
    have h2 := flatMap_le (l := t) fun y hy => h y (List.mem_cons_of_mem _ hy)
    rw [List.flatMap_cons, List.length_append, List.length_cons, Nat.mul_succ]
    omega
theorem allN_le {T : Nat} {ws : List (Int × Int)} (hT : T ≤ 7) (h : ∀ c ∈ ws, 1 ≤ c.1) : ∀ n, n ≤ ws.length → (allN T ws n).length ≤ 8 ^ n
  | 0, _ => Nat.le_refl _
  | n + 1, hn => by
    unfold allN
    have ih := allN_le hT h n (by omega)
    have hc : ws[n]? = some ws[n] := List.getElem?_eq_getElem _
    have e : ws.getD n (0, 0) = ws[n] := by rw [List.getD_eq_getElem?_getD, hc]; rfl
    have := optO_le (T := T) (h ws[n] (List.getElem_mem _))
    have := flatMap_le (k := 8) (l := allN T ws n) (f := fun fs => (optO T (ws.getD n (0, 0))).map fun o => fs ++ [o]) fun x _ => by
      rw [List.length_map, e]
      omega
    rw [Nat.pow_succ]
    omega
section
variable {P : Program} {w : World} {K : PySem.W.Frag} {mg : Str → Option Value} {base : Heap}
def SpanOk (T : Nat) (c : Int × Int) : Prop := 1 ≤ c.1 ∧ c.1 ≤ c.2 ∧ c.1 ≤ (T : Int) + 1 ∧ c.2 ≤ (T : Int) + 2
def spWeathX : Sp := fun vs H Q _ => ∃ (T : Nat) (l : Addr) (xs : List V) (ws : List (Int × Int)), vs = [.int T, .ref l, .bl false] ∧ H l = some (.lst xs) ∧ Paired (QuadT H) xs (ws.map canR) ∧ T ≤ 7 ∧ ws.length ≤ 6 ∧ (∀ c ∈ ws, SpanOk T c) ∧ ∀ p ys H', H p = none → Same H H' → H' p = some (.lst ys) → Paired (WTX (fun D => H D ≠ none) H') ys ((allN T ws ws.length).map fun os => wayR T os ws.length) → Q (.ref p) H'
theorem ok__law_weathers (T : Txt w K mg) : Ok P w K mg base CX0 2 "_law_weathers" ["days", "rains", "thin"] spWeathX := by
  refine Ok.def0 (f__law_weathers T) (fun _ _ _ _ _ _ us hl => match us, hl with | [_, _, _], _ => rfl) sc__law_weathers (fun vs H Q E h => ?_) (fun f cdv A outer s H vs Q E hr h => ?_)
  · obtain ⟨TT, l, xs, ws, rfl, _⟩ := h
    rfl
  · obtain ⟨TT, l, xs, ws, rfl, hl, hP, hT, hw, hs, k⟩ := h
    refine ⟨_, (pss_cons (ps_set (i := 3) sc__law_weathers.nd rfl (by first | exact Or.inl rfl | exact Or.inr rfl) (pe_lst (pa_cons (pe_lst pa_nil) pa_nil)))
      (pss_cons (ps_for PassesOwn.never rfl (pi_listK (K := K) rfl (pv 1)) (pg_name (i := 4) sc__law_weathers.nd rfl (by first | exact Or.inl rfl | exact Or.inr rfl))
        (pss_cons (ps_set (i := 5) sc__law_weathers.nd rfl (by first | exact Or.inl rfl | exact Or.inr rfl) (pe_lst pa_nil))
      (pss_cons (ps_for PassesOwn.never rfl (pi_listK (K := K) rfl (pv 3)) (pg_name (i := 6) sc__law_weathers.nd rfl (by first | exact Or.inl rfl | exact Or.inr rfl))
        (pss_one (ps_for PassesOwn.never rfl (pi_listK (K := K) rfl (pe_ok (ok__law_options T) (hr.mono (by first | decide | omega)) rfl pass0 (pa_cons (pv 0) (pa_cons (pv 4) (pa_cons (pv 2) pa_nil))))) (pg_name (i := 7) sc__law_weathers.nd rfl (by first | exact Or.inl rfl | exact Or.inr rfl))
        (pss_one (ps_expr (pe_bm PySem.F.plainAttrs_list PySem.F.slot_list_append PySem.F.type_list_append mt_append (pv 5) (pa_cons (pe_op op_cat (pv 6) (pe_lst (pa_cons (pv 7) pa_nil))) pa_nil)))))))
      (pss_one (ps_set (i := 3) sc__law_weathers.nd rfl (by first | exact Or.inl rfl | exact Or.inr rfl) (pv 5))))))
      (pss_one (ps_ret (pe_lc (own := [("falls", 6)]) rfl sc__law_weathers.nd (pi_listK (K := K) rfl (pv 3)) (blkOk_by (N := ["days", "rains", "thin", "found", "rain", "more", "falls", "fall"]) (sc := defScope s__law_weathers) (by decide +kernel)) (fun _ _ _ _ _ => (pg_name (i := 6) sc__law_weathers.nd rfl (by first | exact Or.inl rfl | exact Or.inr rfl))) (fun _ _ _ _ _ => pts_nil) (fun _ _ _ _ _ => (pe_ok (ok__law_weather T) (hr.mono (by first | decide | omega)) rfl pass0 (pa_cons (pv 0) (pa_cons (pv 6) pa_nil))))))))), ?_⟩
    have hxl : xs.length = ws.length := by rw [Paired.length hP, List.length_map]
    have hf1 : ∀ c ∈ ws, 1 ≤ c.1 := fun c hc => (hs c hc).1
    have line6 : ∀ {n : Nat}, n ≤ 1000000 → n < sizeLine := fun h => Nat.lt_of_le_of_lt h (by decide)
    have pow6 : ∀ n, n ≤ 6 → 8 ^ n ≤ 262144 := fun n h => Nat.le_trans (Nat.pow_le_pow_right (by decide) h) (by decide)
    refine ⟨(by show 0 ≤ sizeLine; decide), fun e0 he0 => ⟨(by show 1 ≤ sizeLine; decide), fun F0 hF0 => ?_⟩⟩
    obtain ⟨s1, g1⟩ := new2 (.lst []) he0
    obtain ⟨s2, g2⟩ := new2 (.lst [V.ref e0]) hF0
    have e12 := s1.trans s2
    refine ⟨_, rfl, l, rfl, ⟨_, SqL.of (e12 _ _ hl)⟩, for_list (K := K) (a := l) (xs := xs) (fun i σ H' => ∃ F fs v4 v5 v6 v7, σ = [some (.int TT), some (.ref l), some (.bl false), some (.ref F), v4, v5, v6, v7] ∧ Same H H' ∧ H' F = some (.lst fs) ∧ Paired (FlsX H') fs (allN TT ws i)) ⟨F0, [.ref e0], _, _, _, _, rfl, e12, g2, .cons ⟨e0, [], rfl, s2 _ _ g1, .nil⟩ .nil⟩ (fun _ _ _ _ ⟨_, _, _, _, _, _, _, e, _⟩ => SqL.of (e _ _ hl)) ?_ ?_⟩
    · rintro i x σ H1 hx ⟨F, fs, v4, v5, v6, v7, rfl, e1, hF, hfs⟩
      have hi : i < xs.length := (List.getElem?_eq_some_iff.mp hx).1
      obtain ⟨q, hq', hq⟩ := paired_get hP hx
      rw [List.getElem?_map] at hq'
      obtain ⟨c, hc, rfl⟩ := Option.map_eq_some_iff.mp hq'
      have hsc := hs c (List.mem_of_getElem? hc)
      unfold SpanOk at hsc
      have ec : ws.getD i (0, 0) = c := by rw [List.getD_eq_getElem?_getD, hc]; rfl
      have hal := allN_le hT hf1 i (by omega)
      have hp6 := pow6 i (by omega)
      have hfl : fs.length = (allN TT ws i).length := Paired.length hfs
      have hol := optO_le (T := TT) hsc.1
      refine gnE ⟨(by show 0 ≤ sizeLine; decide), fun M hM => ?_⟩
      obtain ⟨s3, g3⟩ := new2 (.lst []) hM
      have hM0 : H M = none := none_of e1 hM
      have nFM : F ≠ M := fun z => by rw [z, hM] at hF; cases hF
      have fl_le : ∀ j, ((allN TT ws i).take j |>.flatMap fun fs => (optO TT c).map fun o => fs ++ [o]).length ≤ 8 * 262144 := fun j => by
        have := flatMap_le (k := 8) (l := (allN TT ws i).take j) (f := fun fs => (optO TT c).map fun o => fs ++ [o]) fun x _ => by
          rw [List.length_map]
          omega
        have : ((allN TT ws i).take j).length ≤ (allN TT ws i).length := by rw [List.length_take]; omega
        omega
      refine ⟨_, rfl, F, rfl, ⟨_, SqL.of (s3 _ _ hF)⟩, for_list (K := K) (a := F) (xs := fs) (fun j σ H' => ∃ ms v6 v7, σ = [some (.int TT), some (.ref l), some (.bl false), some (.ref F), some x, some (.ref M), v6, v7] ∧ Same H1 H' ∧ H' M = some (.lst ms) ∧ Paired (fun y os => y ≠ .ref M ∧ FlsX H' y os) ms (((allN TT ws i).take j).flatMap fun fs => (optO TT c).map fun o => fs ++ [o])) ⟨[], _, _, rfl, s3, g3, .nil⟩ (fun _ _ _ _ ⟨_, _, _, _, e, _⟩ => SqL.of (e _ _ hF)) ?_ ?_⟩
      · rintro j y σ H2 hy ⟨ms, v6, v7, rfl, e2, hM2, hms⟩
        obtain ⟨os, hos, a, zs, rfl, b1, b3⟩ := paired_get hfs hy
        have aM : a ≠ M := fun z => by rw [z, hM] at b1; cases b1
        have a1 := e2 _ _ b1
        have a3 : Paired (OptX H2) zs os := Paired.mapP b3 fun _ _ z => z.same e2
        have hzl : zs.length = i := by
          rw [Paired.length b3]
          exact (mem_allN.mp (List.mem_of_getElem? hos)).1
        refine gnE ?_
        refine ⟨_, rfl, _, rfl, _, rfl, TT, x, c, rfl, hq.same (e1.trans e2), by omega, hsc.1, hsc.2.1, hsc.2.2.1, by omega, fun o vs H3 ho s4 ho3 ov => ?_⟩
        have hvl : vs.length = (optO TT c).length := Paired.length ov
        refine ⟨o, rfl, ⟨_, SqL.of ho3⟩, for_list (K := K) (a := o) (xs := vs) (fun n σ H' => ∃ ms v7, σ = [some (.int TT), some (.ref l), some (.bl false), some (.ref F), some x, some (.ref M), some (.ref a), v7] ∧ Same H1 H' ∧ H' o = some (.lst vs) ∧ Paired (OptX H') vs (optO TT c) ∧ H' a = some (.lst zs) ∧ Paired (OptX H') zs os ∧ H' M = some (.lst ms) ∧ Paired (fun y os => y ≠ .ref M ∧ FlsX H' y os) ms (((allN TT ws i).take j).flatMap (fun fs => (optO TT c).map fun o => fs ++ [o]) ++ ((optO TT c).take n).map fun o => os ++ [o])) ⟨ms, _, rfl, e2.trans s4, ho3, ov, s4 _ _ a1, Paired.mapP a3 fun _ _ z => z.same s4, s4 _ _ hM2, by rw [List.take_zero, List.map_nil, List.append_nil]; exact Paired.mapP hms fun _ _ z => ⟨z.1, z.2.same s4⟩⟩ (fun _ _ _ _ ⟨_, _, _, _, e, _⟩ => SqL.of e) ?_ ?_⟩
        · rintro n z σ H4 hz ⟨ms, v7, rfl, e4, o4, oo4, a4, aa4, hM4, hms⟩
          obtain ⟨oz, hoz, hzo⟩ := paired_get oo4 hz
          have oM : o ≠ M := fun z => by rw [z, hM2] at ho; cases ho
          have hml : ms.length ≤ 8 * 262144 + 8 := by
            rw [Paired.length hms, List.length_append, List.length_map]
            have := fl_le j
            have : ((optO TT c).take n).length ≤ (optO TT c).length := by rw [List.length_take]; omega
            omega
          refine gnE ?_
          refine ⟨_, rfl, .inl ⟨rfl, _, SqL.of hM4⟩, _, rfl, _, rfl, (by show 1 ≤ sizeLine; decide), fun u hu => ⟨a, u, zs, [z], rfl, rfl, (same_new hu) _ _ a4, upd_same, line_of (by show zs.length + 1 ≤ _; omega), fun v hv => ?_⟩⟩
          obtain ⟨s5, g5⟩ := new2 (.lst [z]) hu
          obtain ⟨s6, g6⟩ := new2 (.lst (zs ++ [z])) hv
          have s56 := s5.trans s6
          have hM6 := s56 _ _ hM4
          have vM : v ≠ M := fun e => by rw [e, s5 _ _ hM4] at hv; cases hv
          refine ⟨M, ms, _, rfl, rfl, hM6, Nat.lt_of_le_of_lt hml (by decide), ?_⟩
          have nv : V.ref v ≠ .ref M := fun e => vM (by cases e; rfl)
          refine ⟨ms ++ [.ref v], _, rfl, same_mut (e4.trans s56) hM, by rw [upd_ne oM]; exact s56 _ _ o4, Paired.mapP oo4 fun _ _ z => (z.same s56).mut hM6, by rw [upd_ne aM]; exact s56 _ _ a4, Paired.mapP aa4 fun _ _ z => (z.same s56).mut hM6, upd_same, ?_⟩
          rw [take_get hoz, List.map_append, ← List.append_assoc]
          exact Paired.snoc (Paired.mapP hms fun _ _ z => ⟨z.1, (z.2.same s56).mut hM6 z.1⟩) ⟨nv, FlsX.mut hM6 nv ⟨v, zs ++ [z], rfl, g6, Paired.snoc (Paired.mapP aa4 fun _ _ z => z.same s56) (hzo.same s56)⟩⟩
        · rintro σ H4 ⟨ms, v7, rfl, e4, o4, oo4, a4, aa4, hM4, hms⟩
          rw [hvl, List.take_length] at hms
          refine ⟨ms, _, _, rfl, e4, hM4, ?_⟩
          rw [take_get hos, List.flatMap_append, List.flatMap_cons, List.flatMap_nil, List.append_nil]
          exact hms
      · rintro σ H2 ⟨ms, v6, v7, rfl, e2, hM2, hms⟩
        rw [hfl, List.take_length] at hms
        refine ⟨_, rfl, M, ms, _, _, _, _, rfl, e1.trans e2, hM2, ?_⟩
        unfold allN
        rw [ec]
        exact Paired.mapP hms fun _ _ z => z.2
    · rintro σ H1 ⟨F, fs, v4, v5, v6, v7, rfl, e1, hF, hfs⟩
      rw [hxl] at hfs
      have hal := allN_le hT hf1 ws.length (Nat.le_refl _)
      have hp6 := pow6 ws.length (by omega)
      have hfl : fs.length = (allN TT ws ws.length).length := Paired.length hfs
      refine ⟨_, rfl, F, rfl, ⟨_, SqL.of hF⟩, fun D hD => lc_accL (K := K) (a := F) (xs := fs) hD (SqL.of hF) (by omega) (fun j acc H' => Paired (WTX (fun D' => D' = D ∨ H D' ≠ none) H') acc (((allN TT ws ws.length).take j).map fun os => wayR TT os ws.length)) (fun _ _ => .nil) ?_ ?_⟩
      · rintro j y acc H2 N N0 hy s2 hacc hI hN hN0
        obtain ⟨os, hos, hfo⟩ := paired_get hfs hy
        obtain ⟨a, zs, rfl, a1, a3⟩ := hfo.same s2
        obtain ⟨ol, om⟩ := mem_allN.mp (List.mem_of_getElem? hos)
        have hzl : zs.length = ws.length := by rw [Paired.length a3, ol]
        refine gnE ⟨rfl, ?_⟩
        refine ⟨_, rfl, _, rfl, TT, a, zs, os, rfl, a1, by omega, by omega, a3, fun d hd => ?_, fun p rs H3 hp s3 hG => ?_⟩
        · obtain ⟨q, hq⟩ := List.getElem?_of_mem hd
          have hql : q < ws.length := by rw [← ol]; exact (List.getElem?_eq_some_iff.mp hq).1
          obtain ⟨o, ho, hm⟩ := om q hql
          rw [hq] at ho
          cases ho
          have hc : ws[q]? = some ws[q] := List.getElem?_eq_getElem _
          rw [List.getD_eq_getElem?_getD, hc] at hm
          have h1 := hf1 ws[q] (List.getElem_mem _)
          have hm' : some d ∈ optO TT ws[q] := hm
          have := mem_optO_some.mp hm'
          omega
        · refine hN _ _ s3 fun H5 b5 _ => ?_
          have hacc3 := s3 _ _ hacc
          have none2 : ∀ D', (D' = D ∨ H D' ≠ none) → H2 D' ≠ none := fun D' h z => by
            rcases h with rfl | h
            · rw [hacc] at z
              cases z
            · exact h (none_of (e1.trans s2) z)
          rw [take_get hos, List.map_append]
          rw [ol] at hG
          exact Paired.snoc (Paired.mapP hI fun _ _ z => (z.same s3).but (.inl rfl) hacc3 b5) (((hG.wtx hp).mono fun D' h => none2 D' h).but (.inl rfl) hacc3 b5)
      · rintro acc H2 s2 hacc hal' hI
        rw [hfl, List.take_length] at hI
        exact k D acc H2 (none_of e1 hD) (e1.trans s2) hacc (Paired.mapP hI fun _ _ z => z.mono fun D' h => .inr h)
end
end K27
end
section
set_option maxRecDepth 100000
set_option maxHeartbeats 4000000
namespace K27
open PySem PySem.Spec PyProof.Rows L2
def outB (c s : Int × Int) : Bool := decide (c.1 ≤ s.1) || decide (s.2 < c.2)
def farB (d : Int) (s : Int × Int) : Bool := decide (d ≤ s.1) || decide (s.2 < d)
theorem okLot_flt {lot : List (Int × Int)} {c : Int × Int} {d : Int} : okLot lot c d = (lot.filter (outB c)).all (farB d) := by
  unfold okLot
  rw [List.all_filter]
  congr 1
  funext s
  unfold okDay insB outB farB
  by_cases h1 : s.1 < c.1 <;> by_cases h2 : c.2 ≤ s.2
  · simp [h1, h2, Int.not_le.mpr h1, Int.not_lt.mpr h2]
  · simp [h1, h2, Int.not_le.mp h2]
  · simp [h1, h2, Int.not_lt.mp h1]
  · simp [h1, h2, Int.not_lt.mp h1]
section
variable {P : Program} {w : World} {K : PySem.W.Frag} {mg : Str → Option Value} {base : Heap}
def spFree : Sp := fun vs H Q _ => ∃ (T : Nat) (x : V) (r : Q4) (l : Addr) (ss : List V) (lot : List (Int × Int)), vs = [x, .ref l, .int T] ∧ QuadT H x r ∧ H l = some (.lst ss) ∧ Paired (PairT H) ss lot ∧ lot.length ≤ 1000 ∧ T ≤ 24 ∧ 1 ≤ r.1 ∧ r.1 ≤ r.2.1 ∧ r.2.1 ≤ 1000 ∧ ∀ H', Same H H' → Q (.int (freeD T lot (r.1, r.2.1))) H'
theorem ok_free_day (T : Txt w K mg) : Ok P w K mg base CX0 1 "free_day" ["rain", "stretches", "days"] spFree := by
  refine Ok.def0 (f_free_day T) (fun _ _ _ _ _ _ us hl => match us, hl with | [_, _, _], _ => rfl) sc_free_day (fun vs H Q E h => ?_) (fun f cdv A outer s H vs Q E hr h => ?_)
  · obtain ⟨TT, x, r, l, ss, lot, rfl, _⟩ := h
    rfl
  · obtain ⟨TT, x, r, l, ss, lot, rfl, hq, hl, hP, hll, hT, h1, h2, h3, k⟩ := h
    refine ⟨_, (pss_cons (ps_asg (pe_tup (pa_cons (pe_ix (ix_seqK (K := K) rfl) (pv 0) pe_int (fun _ _ => rfl)) (pa_cons (pe_ix (ix_seqK (K := K) rfl) (pv 0) pe_int (fun _ _ => rfl)) pa_nil))) (pg_tupK (K := K) (n := 2) rfl rfl (pgs_cons (pg_name (i := 3) sc_free_day.nd rfl (by first | exact Or.inl rfl | exact Or.inr rfl)) (pgs_cons (pg_name (i := 4) sc_free_day.nd rfl (by first | exact Or.inl rfl | exact Or.inr rfl)) pgs_nil))))
      (pss_cons (ps_setLc (i := 7) (own := [("a", 5), ("b", 6)]) rfl sc_free_day.nd rfl rfl (sw_true rfl rfl rfl (by decide +kernel)) (pi_listK (K := K) rfl (pv 1)) (blkOk_by (N := ["rain", "stretches", "days", "first", "last", "a", "b", "others", "day"]) (sc := defScope s_free_day) (by decide +kernel)) (fun _ _ _ _ _ => (pg_tupK (K := K) (n := 2) rfl rfl (pgs_cons (pg_name (i := 5) sc_free_day.nd rfl (by first | exact Or.inl rfl | exact Or.inr rfl)) (pgs_cons (pg_name (i := 6) sc_free_day.nd rfl (by first | exact Or.inl rfl | exact Or.inr rfl)) pgs_nil)))) (fun _ _ _ _ _ => pts_one (PW.pt (pw_or (pt_cmpR op_le (pv 3) (pv 5) (nomark _)) (pw_or1 (pt_cmpR op_gt (pv 4) (pv 6) (nomark _)))))) (fun _ _ _ _ _ => (pe_tup (pa_cons (pv 5) (pa_cons (pv 6) pa_nil)))))
      (pss_cons (ps_for PassesOwn.never rfl (pi_range2 rfl (n_range T) (pa_cons (pv 3) (pa_cons (pe_op op_add (pe_callB (call_min2 rfl) rfl (n_min T) (by decide +kernel) (pa_cons (pv 4) (pa_cons (pv 2) pa_nil))) pe_int) pa_nil))) (pg_name (i := 8) sc_free_day.nd rfl (by first | exact Or.inl rfl | exact Or.inr rfl))
        (pss_one (ps_if (pt_val (pe_callB (cr_all rfl) rfl (n_all T) (by decide +kernel) (pa_cons (pe_lc (own := [("a", 5), ("b", 6)]) rfl sc_free_day.nd (pi_listK (K := K) rfl (pv 7)) (blkOk_by (N := ["rain", "stretches", "days", "first", "last", "a", "b", "others", "day"]) (sc := defScope s_free_day) (by decide +kernel)) (fun _ _ _ _ _ => (pg_tupK (K := K) (n := 2) rfl rfl (pgs_cons (pg_name (i := 5) sc_free_day.nd rfl (by first | exact Or.inl rfl | exact Or.inr rfl)) (pgs_cons (pg_name (i := 6) sc_free_day.nd rfl (by first | exact Or.inl rfl | exact Or.inr rfl)) pgs_nil)))) (fun _ _ _ _ _ => pts_nil) (fun _ _ _ _ _ => (pe_or (pe_cmpR op_le (pv 8) (pv 5) (nomark _)) (pe_one (pe_cmpR op_gt (pv 8) (pv 6) (nomark _)))))) pa_nil))) (pss_one (ps_ret (pv 8))) pss_nil)))
      (pss_one (ps_ret (pe_ifExp (pt_cmpR op_gt (pv 4) (pv 2) (nomark _)) (pe_op op_add (pv 2) pe_int) pe_int)))))), ?_⟩
    have hsl : ss.length = lot.length := Paired.length hP
    refine ⟨_, rfl, hq.ix (i := 0) rfl ⟨_, rfl, hq.ix (i := 1) rfl ⟨(by show 2 ≤ sizeLine; decide), fun t ht => ⟨t, _, rfl, SqT.of upd_same, rfl, _, _, rfl, _, _, rfl, rfl, ?_⟩⟩⟩⟩
    obtain ⟨s1, g1⟩ := new2 (.tup [.int r.1, .int r.2.1]) ht
    generalize hH1 : upd H t (.tup [.int r.1, .int r.2.1]) = H1 at s1 g1
    show (fun x => _) H1
    obtain ⟨f, hf⟩ : ∃ f, r.1 = f := ⟨_, rfl⟩
    obtain ⟨la, hla⟩ : ∃ la, r.2.1 = la := ⟨_, rfl⟩
    rw [hf] at h1 h2 k
    rw [hla] at h2 h3 k
    refine ⟨_, rfl, l, rfl, ⟨_, SqL.of (s1 _ _ hl)⟩, fun D hD => lc_acc (K := K) (a := l) (xs := ss) hD (SqL.of (s1 _ _ hl)) (by omega) (fun j acc H' => Paired (PairT H') acc ((lot.take j).filter (outB (f, la)))) (fun _ _ => .nil) ?_ ?_⟩
    · rintro j y acc H2 N N0 hy s2 hacc hI hN hN0
      obtain ⟨s, hs, hr⟩ := paired_get hP hy
      have hr := (hr.same s1).same s2
      refine hr.un rfl ⟨rfl, ?_⟩
      have st := flt_take2 (p := outB (f, la)) hs _ rfl
      refine EvT.run (b := outB (f, la) s) ?_ fun H3 s3 => ?_
      · rw [show outB (f, la) s = (decide (f ≤ s.1) || decide (s.2 < la)) from rfl]
        rw [← hf, ← hla]
        exact EvT.or (EvT.test (Ev.le (Ev.var rfl) (Ev.var rfl))) fun _ => EvT.test (Ev.gt (Ev.var rfl) (Ev.var rfl))
      cases q : outB (f, la) s with
      | false =>
        rw [q] at st
        have st := st.trans (List.append_nil _)
        refine hN0 _ s3 ?_
        rw [st]
        exact Paired.mapP hI fun _ _ z => z.same s3
      | true =>
        rw [q] at st
        refine ⟨_, rfl, _, rfl, (by show 2 ≤ sizeLine; decide), fun u hu => ?_⟩
        obtain ⟨s4, g4⟩ := new2 (.tup [.int s.1, .int s.2]) hu
        have hacc4 := s4 _ _ (s3 _ _ hacc)
        refine hN _ _ (s3.trans s4) fun H5 b5 _ => ?_
        rw [st]
        exact Paired.snoc (Paired.mapP hI fun _ _ z => ((z.same s3).same s4).but hacc4 b5) (PairT.but hacc4 b5 (⟨u, rfl, g4⟩ : PairT _ (.ref u) s))
    · rintro acc H2 s2 hacc hal hI
      rw [hsl, List.take_length] at hI
      have e2 := s1.trans s2
      have hfl : (lot.filter (outB (f, la))).length = acc.length := (Paired.length hI).symm
      have hmn : (if (TT : Int) < la then (TT : Int) else la) = min la (TT : Int) := by omega
      refine ⟨_, rfl, _, rfl, _, rfl, _, _, rfl, _, _, rfl, rfl, ?_⟩
      refine ⟨r.1, (if (TT : Int) < r.2.1 then (TT : Int) else r.2.1) + 1, rfl, ?_, ?_⟩
      · rw [hla, hf, hmn]
        show -2 ^ 62 ≤ f ∧ f < 2 ^ 62 ∧ -2 ^ 62 ≤ min la (TT : Int) + 1 ∧ min la (TT : Int) + 1 < 2 ^ 62
        omega
      rw [hla, hf, hmn]
      refine for_upto (lo := f) (L := (min la (TT : Int) + 1 - f).toNat) rfl (fun i σ H' => ∃ v8, σ = [some x, some (.ref l), some (.int TT), some (.int f), some (.int la), none, none, some (.ref D), v8] ∧ Same H2 H' ∧ ∀ j, j < i → okLot lot (f, la) (f + (j : Int)) = false) ⟨_, by rw [← hf, ← hla]; rfl, Same.refl _, fun j h => by omega⟩ ?_ ?_
      · rintro i σ H3 hi ⟨v8, rfl, s3, hno⟩
        refine gnE ?_
        refine ⟨_, rfl, D, rfl, ⟨_, SqL.of (s3 _ _ hacc)⟩, fun B hB => lc_acc (K := K) (a := D) (xs := acc) hB (SqL.of (s3 _ _ hacc)) (by omega) (fun j bs H' => bs = (((lot.filter (outB (f, la))).take j).map (farB (f + (i : Int)))).map V.bl) (fun _ _ => rfl) ?_ ?_⟩
        · rintro j y bs H4 N N0 hy s4 hbs hI4 hN hN0
          obtain ⟨s, hs, hr⟩ := paired_get hI hy
          have hr := (hr.same s3).same s4
          refine hr.un rfl ⟨rfl, ?_⟩
          refine yesE (Ev.run (v := .bl (farB (f + (i : Int)) s)) ?_ fun H5 s5 => ?_)
          · rw [show farB (f + (i : Int)) s = (decide (f + (i : Int) ≤ s.1) || decide (s.2 < f + (i : Int))) from rfl]
            exact Ev.or (Ev.le (Ev.var rfl) (Ev.var rfl)) fun _ => Ev.gt (Ev.var rfl) (Ev.var rfl)
          · refine hN _ _ s5 fun H6 b6 _ => ?_
            rw [take_get hs, List.map_append, List.map_append, hI4]
            rfl
        · rintro bs H4 s4 hbs _ hI4
          rw [← hfl, List.take_length] at hI4
          refine ⟨B, (lot.filter (outB (f, la))).map (farB (f + (i : Int))), rfl, SqL.of (by rw [hbs, hI4]), ?_⟩
          have eal : ((lot.filter (outB (f, la))).map (farB (f + (i : Int)))).all id = okLot lot (f, la) (f + (i : Int)) := by
            rw [okLot_flt, List.all_map]
            rfl
          rw [eal]
          refine ⟨_, rfl, ?_⟩
          cases q : okLot lot (f, la) (f + (i : Int)) with
          | true =>
            refine ⟨_, rfl, ?_⟩
            rw [freeD_is (c := (f, la)) hi q hno] at k
            exact k _ (e2.trans (s3.trans s4))
          | false =>
            refine ⟨_, rfl, s3.trans s4, fun j hj => ?_⟩
            by_cases e : j = i
            · rw [e]
              exact q
            · exact hno j (by omega)
      · rintro σ H3 ⟨v8, rfl, s3, hno⟩
        rw [freeD_no (c := (f, la)) hno] at k
        refine ⟨_, rfl, _, rfl, _, _, rfl, rfl, _, rfl, ite2 (fun c => ?_) (fun c => ?_)⟩
        · rw [if_pos (of_decide_eq_true c)] at k
          exact ⟨_, rfl, _, _, rfl, rfl, k _ (e2.trans s3)⟩
        · rw [if_neg (fun z => c (decide_eq_true z))] at k
          exact k _ (e2.trans s3)
def spLotP (K : PySem.W.Frag) : Sp := fun vs H Q _ => ∃ (T : Nat) (p l : Addr) (ws : List (Int × Int)) (ss : List V) (lot : List (Int × Int)), vs = [.ref p, .ref l] ∧ AlmAt K H p T (ws.map canR) ∧ H l = some (.lst ss) ∧ Paired (PairT H) ss lot ∧ lot.length ≤ 1000 ∧ T ≤ 24 ∧ ws.length ≤ 40 ∧ (∀ c ∈ ws, 1 ≤ c.1 ∧ c.1 ≤ c.2 ∧ c.2 ≤ 1000) ∧
  (∀ (n : Nat) (c : Int × Int) r m H', ws[n]? = some c → freeD T lot c = 0 → (∀ i c', i < n → ws[i]? = some c' → freeD T lot c' ≠ 0) → Same H H' → H' r = some (.tup [.int ((n : Int) + 1), .ref m]) → H' m = some (.lst []) → Q (.ref r) H') ∧
  ((∀ c ∈ ws, freeD T lot c ≠ 0) → ∀ r m H', Same H H' → H' r = some (.tup [.int 0, .ref m]) → H' m = some (.lst ((ws.map (freeD T lot)).map V.int)) → Q (.ref r) H')
theorem ok_lot_places (T : Txt w K mg) : Ok P w K mg base CX0 2 "lot_places" ["almanac", "stretches"] (spLotP K) := by
  refine Ok.def0 (f_lot_places T) (fun _ _ _ _ _ _ us hl => match us, hl with | [_, _], _ => rfl) sc_lot_places (fun vs H Q E h => ?_) (fun f cdv A outer s H vs Q E hr h => ?_)
  · obtain ⟨TT, p, l, ws, ss, lot, rfl, _⟩ := h
    rfl
  · obtain ⟨TT, p, l, ws, ss, lot, rfl, hA, hl, hP, hll, hT, hw, hg, kb, kg⟩ := h
    refine ⟨_, (pss_cons (ps_set (i := 2) sc_lot_places.nd rfl (by first | exact Or.inl rfl | exact Or.inr rfl) (pe_lst pa_nil))
      (pss_cons (ps_set (i := 3) sc_lot_places.nd rfl (by first | exact Or.inl rfl | exact Or.inr rfl) (pe_okM0 (okm_Almanac_rains T) (cl_Almanac T) (pv 0) (hr.mono (by first | decide | omega)) pass0))
      (pss_cons (ps_for PassesOwn.never rfl (pi_range1 rfl (n_range T) (pa_cons (pe_callB (len_seqK (K := K) rfl) rfl (n_len T) (by decide +kernel) (pa_cons (pv 3) pa_nil)) pa_nil)) (pg_name (i := 4) sc_lot_places.nd rfl (by first | exact Or.inl rfl | exact Or.inr rfl))
        (pss_cons (ps_set (i := 5) sc_lot_places.nd rfl (by first | exact Or.inl rfl | exact Or.inr rfl) (pe_ok (ok_free_day T) (hr.mono (by first | decide | omega)) rfl pass0 (pa_cons (pe_ix (ix_listK (K := K) rfl) (pv 3) (pv 4) (fun _ _ => rfl)) (pa_cons (pv 1) (pa_cons (pe_okM0 (okm_Almanac_days T) (cl_Almanac T) (pv 0) (hr.mono (by first | decide | omega)) pass0) pa_nil)))))
      (pss_cons (ps_if (pt_cmpR op_eq (pv 5) pe_int (nomark _)) (pss_one (ps_ret (pe_tup (pa_cons (pe_op op_add (pv 4) pe_int) (pa_cons (pe_lst pa_nil) pa_nil))))) pss_nil)
      (pss_one (ps_expr (pe_bm PySem.F.plainAttrs_list PySem.F.slot_list_append PySem.F.type_list_append mt_append (pv 2) (pa_cons (pv 5) pa_nil)))))))
      (pss_one (ps_ret (pe_tup (pa_cons pe_int (pa_cons (pv 2) pa_nil)))))))), ?_⟩
    refine ⟨(by show 0 ≤ sizeLine; decide), fun D hD => ?_⟩
    obtain ⟨s1, g1⟩ := new2 (.lst []) hD
    generalize upd H D (.lst []) = H1 at s1 g1 ⊢
    have hA1 := hA.same s1
    obtain ⟨dx, l0, xs0, i1, i2, i3⟩ := id hA1
    refine ⟨_, rfl, p, dx, _, rfl, i1, af_no (by decide +kernel) (by decide +kernel), p, TT, ws.map canR, rfl, hA1, fun rl xs H2 hrl s2 g2 hQ => ?_⟩
    have e2 := s1.trans s2
    have hxl : xs.length = ws.length := by rw [Paired.length hQ, List.length_map]
    refine ⟨_, rfl, _, _, rfl, .inl (SqL.of g2), _, rfl, by omega, by omega, for_upto (lo := 0) (L := ws.length) (by omega) (fun i σ H' => ∃ v4 v5, σ = [some (.ref p), some (.ref l), some (.ref D), some (.ref rl), v4, v5] ∧ Same H H' ∧ H' rl = some (.lst xs) ∧ Paired (QuadT H') xs (ws.map canR) ∧ H' D = some (.lst (((ws.take i).map (freeD TT lot)).map V.int)) ∧ ∀ j c, j < i → ws[j]? = some c → freeD TT lot c ≠ 0) ⟨_, _, rfl, e2, g2, hQ, s2 _ _ g1, fun j c h => by omega⟩ ?_ ?_⟩
    · rintro i σ H3 hi ⟨v4, v5, rfl, e3, g3, hQ3, hD3, hno⟩
      have z1 : (0 : Int) + (i : Int) = (i : Int) := by omega
      rw [z1]
      refine gnE ?_
      obtain ⟨c, hc⟩ : ∃ c, ws[i]? = some c := ⟨ws[i], List.getElem?_eq_getElem hi⟩
      obtain ⟨x, hx⟩ : ∃ x, xs[i]? = some x := ⟨xs[i]'(by omega), List.getElem?_eq_getElem _⟩
      obtain ⟨q, hq', hq⟩ := paired_get hQ3 hx
      rw [List.getElem?_map, hc] at hq'
      cases hq'
      obtain ⟨c1, c2, c3⟩ := hg c (List.mem_of_getElem? hc)
      have hA3 := hA.same e3
      obtain ⟨dx3, l3, xs3, j1, j2, j3⟩ := id hA3
      refine ⟨_, rfl, _, rfl, rl, xs, _, x, rfl, rfl, SqL.of g3, at_of rfl hx, _, rfl, _, rfl, p, dx3, _, rfl, j1, af_no (by decide +kernel) (by decide +kernel), p, TT, ws.map canR, rfl, hA3, ?_⟩
      refine ⟨TT, x, canR c, l, ss, lot, rfl, hq, e3 _ _ hl, Paired.mapP hP fun _ _ z => z.same e3, hll, hT, c1, c2, c3, fun H4 s4 => ?_⟩
      have e4 := e3.trans s4
      have efr : freeD TT lot ((canR c).1, (canR c).2.1) = freeD TT lot c := rfl
      rw [efr]
      refine ⟨_, rfl, rfl, _, rfl, ite2 (fun z => ?_) (fun z => ?_)⟩
      · have z : freeD TT lot c = 0 := by
          have := of_decide_eq_true z
          exact V.int.inj this
        refine ⟨_, rfl, _, _, rfl, rfl, (by show 0 ≤ sizeLine; decide), fun m hm => ⟨(by show 2 ≤ sizeLine; decide), fun r hr => ?_⟩⟩
        obtain ⟨s5, g5⟩ := new2 (.lst []) hm
        obtain ⟨s6, g6⟩ := new2 (.tup [.int ((i : Int) + 1), .ref m]) hr
        exact kb i c r m _ hc z hno (e4.trans (s5.trans s6)) g6 (s6 _ _ g5)
      · have z : freeD TT lot c ≠ 0 := fun y => z (decide_eq_true (by rw [y]))
        have hD4 := s4 _ _ hD3
        refine ⟨_, rfl, .inl ⟨rfl, _, SqL.of hD4⟩, _, rfl, D, _, _, rfl, rfl, hD4, line_lt (by rw [List.length_map, List.length_map, List.length_take]; omega), ?_⟩
        have nD : ∀ {a o}, H1 a = some o → H2 a = some o := fun h => s2 _ _ h
        have rD : rl ≠ D := fun z => by rw [z, g1] at hrl; cases hrl
        refine ⟨_, _, rfl, same_mut e4 hD, by rw [upd_ne rD]; exact s4 _ _ g3, Paired.mapP hQ3 fun _ _ z => (z.same s4).mut hD4, ?_, fun j c' hj hc' => ?_⟩
        · rw [upd_same, take_get hc, List.map_append, List.map_append]
          rfl
        · by_cases e : j = i
          · rw [e, hc] at hc'
            cases hc'
            exact z
          · exact hno j c' (by omega) hc'
    · rintro σ H3 ⟨v4, v5, rfl, e3, g3, hQ3, hD3, hno⟩
      rw [List.take_length] at hD3
      refine ⟨_, rfl, (by show 2 ≤ sizeLine; decide), fun r hr => ?_⟩
      obtain ⟨s4, g4⟩ := new2 (.tup [.int 0, .ref D]) hr
      refine kg (fun c hc => ?_) r D _ (e3.trans s4) g4 (s4 _ _ hD3)
      obtain ⟨j, hj⟩ := List.getElem?_of_mem hc
      exact hno j c (List.getElem?_eq_some_iff.mp hj).1 hj
end
end K27
end
section
set_option maxRecDepth 100000
set_option maxHeartbeats 4000000
namespace K27
open PySem PySem.Spec PyProof.Rows L2
/-! ### weathers of chosen days: plain -/
/-- the chosen days are options of the spans -/
def Way (T : Nat) (ws : List (Int × Int)) (os : List (Option Int)) : Prop := os.length = ws.length ∧ ∀ (i : Nat) (c : Int × Int), ws[i]? = some c → ∃ o, os[i]? = some o ∧ o ∈ optO T c
theorem way_all {T : Nat} {ws : List (Int × Int)} {os : List (Option Int)} : os ∈ allN T ws ws.length ↔ Way T ws os := by
  rw [mem_allN]
  unfold Way
  constructor
  · rintro ⟨h1, h2⟩
    refine ⟨h1, fun i c hc => ?_⟩
    have hi : i < ws.length := (List.getElem?_eq_some_iff.mp hc).1
    obtain ⟨o, ho, hm⟩ := h2 i hi
    rw [List.getD_eq_getElem?_getD, hc] at hm
    exact ⟨o, ho, hm⟩
  · rintro ⟨h1, h2⟩
    refine ⟨h1, fun i hi => ?_⟩
    have hc : ws[i]? = some ws[i] := List.getElem?_eq_getElem _
    obtain ⟨o, ho, hm⟩ := h2 i _ hc
    exact ⟨o, ho, by rw [List.getD_eq_getElem?_getD, hc]; exact hm⟩
theorem Way.day {T : Nat} {ws : List (Int × Int)} {os : List (Option Int)} (h : Way T ws os) {i : Nat} {d : Int} (hi : os[i]? = some (some d)) : ∃ c, ws[i]? = some c ∧ c.1 ≤ d ∧ d ≤ c.2 ∧ d ≤ (T : Int) := by
  have hl : i < ws.length := by rw [← h.1]; exact (List.getElem?_eq_some_iff.mp hi).1
  have hc : ws[i]? = some ws[i] := List.getElem?_eq_getElem _
  obtain ⟨o, ho, hm⟩ := h.2 i _ hc
  rw [hi] at ho
  cases ho
  exact ⟨_, hc, mem_optO_some.mp hm⟩
/-- such a weather is tight in a stretch if each fall in it is one of a span within -/
theorem isT_way {T : Nat} {ws : List (Int × Int)} {os : List (Option Int)} {a b : Nat} (hb : b ≤ T) (hl : os.length = ws.length) :
    isT ws (wayR T os ws.length) a b = true ↔ ∀ (i : Nat) (c : Int × Int) (o : Option Int), ws[i]? = some c → os[i]? = some o → okO [((a : Int), (b : Int))] c o = true := by
  have one : ∀ (c : Int × Int) (d : Int), okO [((a : Int), (b : Int))] c (some d) = okDay ((a : Int), (b : Int)) c d := fun c d => by
    show ([((a : Int), (b : Int))].all fun s => okDay s c d) = _
    simp
  unfold isT
  rw [List.all_eq_true]
  constructor
  · intro h i c o hc ho
    cases o with
    | none => rfl
    | some d =>
      rw [one]
      unfold okDay
      by_cases hd : d ≤ (a : Int)
      · rw [decide_eq_true hd]; simp
      · by_cases hd2 : (b : Int) < d
        · rw [decide_eq_true hd2]; simp
        · obtain ⟨k, hk⟩ : ∃ k : Nat, d = ((a + k : Nat) : Int) + 1 := ⟨(d - 1 - a).toNat, by omega⟩
          have hi : i < ws.length := (List.getElem?_eq_some_iff.mp hc).1
          have := h k (List.mem_range.mpr (by omega))
          rw [List.getD_eq_getElem?_getD, wayR_get (by omega)] at this
          have := List.all_eq_true.mp this ((i : Int) + 1, 1) (mem_repN.mpr ⟨i, hi, by rw [ho, hk], rfl⟩)
          unfold inT at this
          have e : ws.getD (((i : Int) + 1, (1 : Int)).1 - 1).toNat (0, 0) = c := by
            show ws.getD ((i : Int) + 1 - 1).toNat (0, 0) = c
            have : ((i : Int) + 1 - 1).toNat = i := by omega
            rw [this, List.getD_eq_getElem?_getD, hc]
            rfl
          rw [e] at this
          have : insB ((a : Int), (b : Int)) c = true := by
            unfold insB
            simp only [Bool.not_eq_true', Bool.or_eq_false_iff, decide_eq_false_iff_not] at this
            simp only [Bool.and_eq_true, decide_eq_true_eq]
            omega
          rw [this]
          rfl
  · intro h k hk
    have hk := List.mem_range.mp hk
    rw [List.getD_eq_getElem?_getD, wayR_get (by omega)]
    refine List.all_eq_true.mpr fun c' hc' => ?_
    obtain ⟨i, hi, ho, rfl⟩ := mem_repN.mp hc'
    have hc : ws[i]? = some ws[i] := List.getElem?_eq_getElem _
    have := h i _ _ hc ho
    rw [one] at this
    unfold okDay at this
    have e : ws.getD (((i : Int) + 1, (1 : Int)).1 - 1).toNat (0, 0) = ws[i] := by
      show ws.getD ((i : Int) + 1 - 1).toNat (0, 0) = _
      have : ((i : Int) + 1 - 1).toNat = i := by omega
      rw [this, List.getD_eq_getElem?_getD, hc]
      rfl
    unfold inT
    rw [e]
    have h1 : ¬ (((a + k : Nat) : Int) + 1 ≤ (a : Int)) := by omega
    have h2 : ¬ ((b : Int) < ((a + k : Nat) : Int) + 1) := by omega
    rw [decide_eq_false h1, decide_eq_false h2] at this
    unfold insB at this
    simp only [Bool.or_false, Bool.and_eq_true, decide_eq_true_eq] at this
    simp only [Bool.not_eq_true', Bool.or_eq_false_iff, decide_eq_false_iff_not]
    omega
theorem okO_lot {lot : List (Int × Int)} {c : Int × Int} {o : Option Int} : okO lot c o = true ↔ ∀ s ∈ lot, okO [s] c o = true := by
  cases o with
  | none => exact ⟨fun _ _ _ => rfl, fun _ => rfl⟩
  | some d =>
    show okLot lot c d = true ↔ ∀ s ∈ lot, okLot [s] c d = true
    unfold okLot
    rw [List.all_eq_true]
    simp
/-- a right weather -/
theorem falls_run {rs : List Q4} {d : Int} : ∀ {rep : List (Int × Int)} {b : Int} {g : List Int}, (rep.map Prod.fst).Pairwise (· < ·) → (∀ c ∈ rep, b < c.1) → (∀ c ∈ rep, c.1 ≤ (rs.length : Int) ∧ c.1 ∉ g ∧ okR (rs.getD (c.1 - 1).toNat (0, 0, 0, 0)) d c.2 = true) → falls rs d b g rep = some (g ++ rep.map Prod.fst)
  | [], b, g, _, _, _ => by unfold falls; simp
  | c :: r, b, g, hp, hb, h => by
    rw [List.map_cons, List.pairwise_cons] at hp
    obtain ⟨h1, h2, h3⟩ := h c List.mem_cons_self
    have ho : okF rs d b g c = true := by
      unfold okF
      rw [decide_eq_true (hb c List.mem_cons_self), decide_eq_true h1, decide_eq_false h2, h3]
      rfl
    unfold falls
    rw [if_pos ho, falls_run hp.2 (fun e he => hp.1 e.1 (List.mem_map.mpr ⟨e, he, rfl⟩)) fun e he => ?_]
    · rw [List.map_cons, List.append_assoc]
      rfl
    · obtain ⟨q1, q2, q3⟩ := h e (List.mem_cons_of_mem _ he)
      refine ⟨q1, fun z => ?_, q3⟩
      rcases List.mem_append.mp z with z | z
      · exact q2 z
      · have := hp.1 e.1 (List.mem_map.mpr ⟨e, he, rfl⟩)
        rw [List.mem_singleton.mp z] at this
        omega
theorem repN_asc {os : List (Option Int)} {n k : Nat} : ((repN os n k).map Prod.fst).Pairwise (· < ·) := by
  unfold repN
  rw [List.map_map, List.pairwise_map]
  refine List.Pairwise.imp (fun {a b} h => ?_) ((List.pairwise_lt_range (n := n)).sublist List.filter_sublist)
  show (a : Int) + 1 < (b : Int) + 1
  omega
theorem way_right {T : Nat} {ws : List (Int × Int)} {os : List (Option Int)} (h : Way T ws os) (h1 : ∀ c ∈ ws, 1 ≤ c.1) : wrongOf (ws.map canR) T (wayR T os ws.length) = -1 := by
  have getc : ∀ (i : Nat) (c : Int × Int), ws[i]? = some c → (ws.map canR).getD i (0, 0, 0, 0) = canR c := fun i c hc => by
    rw [List.getD_eq_getElem?_getD, List.getElem?_map, hc]
    rfl
  have main : ∀ (m k : Nat), T - k = m → k ≤ T → ∀ g : List Int, (∀ i : Nat, (((i : Nat) : Int) + 1) ∈ g ↔ ∃ d, os[i]? = some (some d) ∧ d ≤ (k : Int)) → firstBad (ws.map canR) ((k : Int) + 1) g ((wayR T os ws.length).drop k) = 0 := by
    intro m
    induction m with
    | zero =>
      intro k e hk g _
      rw [List.drop_of_length_le (by rw [wayR_len]; omega)]
      rfl
    | succ m ih =>
      intro k e hk g hg
      rw [drop_get (wayR_get (by omega))]
      have hf : falls (ws.map canR) ((k : Int) + 1) 0 g (repN os ws.length k) = some (g ++ (repN os ws.length k).map Prod.fst) := by
        refine falls_run repN_asc (fun c hc => ?_) fun c hc => ?_
        · obtain ⟨i, _, _, rfl⟩ := mem_repN.mp hc
          show (0 : Int) < (i : Int) + 1
          omega
        · obtain ⟨i, hi, ho, rfl⟩ := mem_repN.mp hc
          obtain ⟨c, hc, q1, q2, q3⟩ := h.day ho
          refine ⟨by rw [List.length_map]; show (i : Int) + 1 ≤ _; omega, fun z => ?_, ?_⟩
          · obtain ⟨d, hd, hd2⟩ := (hg i).mp z
            rw [ho] at hd
            cases hd
            omega
          · show okR ((ws.map canR).getD ((i : Int) + 1 - 1).toNat (0, 0, 0, 0)) ((k : Int) + 1) 1 = true
            have : ((i : Int) + 1 - 1).toNat = i := by omega
            rw [this, getc i c hc]
            unfold okR canR
            show (decide (c.1 ≤ (k : Int) + 1) && (decide ((k : Int) + 1 ≤ c.2) && (decide ((1 : Int) ≤ 1) && decide ((1 : Int) ≤ 1)))) = true
            rw [decide_eq_true q1, decide_eq_true q2]
            rfl
      have hgone : ∀ i : Nat, (((i : Nat) : Int) + 1) ∈ g ++ (repN os ws.length k).map Prod.fst ↔ ∃ d, os[i]? = some (some d) ∧ d ≤ ((k + 1 : Nat) : Int) := by
        intro i
        rw [List.mem_append, hg i, List.mem_map]
        constructor
        · rintro (⟨d, hd, hd2⟩ | ⟨c, hc, e⟩)
          · exact ⟨d, hd, by omega⟩
          · obtain ⟨j, hj, ho, rfl⟩ := mem_repN.mp hc
            have : j = i := by
              have e : (j : Int) + 1 = (i : Int) + 1 := e
              omega
            rw [this] at ho
            exact ⟨_, ho, by omega⟩
        · rintro ⟨d, hd, hd2⟩
          by_cases q : d ≤ (k : Int)
          · exact .inl ⟨d, hd, q⟩
          · have hi : i < ws.length := by rw [← h.1]; exact (List.getElem?_eq_some_iff.mp hd).1
            refine .inr ⟨((i : Int) + 1, 1), mem_repN.mpr ⟨i, hi, ?_, rfl⟩, rfl⟩
            rw [hd]
            have : d = (k : Int) + 1 := by omega
            rw [this]
      have hno : dueBad (ws.map canR) ((k : Int) + 1) (g ++ (repN os ws.length k).map Prod.fst) = false := by
        unfold dueBad
        rw [List.any_eq_false]
        intro i hi
        have hi := List.mem_range.mp hi
        rw [List.length_map] at hi
        have hc : ws[i]? = some ws[i] := List.getElem?_eq_getElem _
        unfold late
        rw [getc i _ hc]
        intro z
        simp only [Bool.and_eq_true, decide_eq_true_eq, Bool.not_eq_true', decide_eq_false_iff_not] at z
        obtain ⟨z1, z2⟩ := z
        have z1 : ws[i].2 ≤ (k : Int) + 1 := z1
        refine z2 ((hgone i).mpr ?_)
        obtain ⟨o, ho, hm⟩ := h.2 i _ hc
        cases o with
        | none =>
          have := mem_optO_none.mp hm
          omega
        | some d =>
          have := mem_optO_some.mp hm
          exact ⟨d, ho, by omega⟩
      have hds : dayStep (ws.map canR) ((k : Int) + 1) g (repN os ws.length k) = some (g ++ (repN os ws.length k).map Prod.fst) := by
        unfold dayStep
        rw [hf]
        show (if dueBad _ _ _ = true then none else some _) = _
        rw [hno]
        rfl
      unfold firstBad
      rw [hds]
      show firstBad (ws.map canR) ((k : Int) + 1 + 1) _ _ = 0
      have := ih (k + 1) (by omega) (by omega) _ hgone
      rw [show ((k + 1 : Nat) : Int) + 1 = (k : Int) + 1 + 1 by omega] at this
      exact this
  unfold wrongOf
  rw [if_pos wayR_len]
  have := main T 0 (by omega) (by omega) [] fun i => by
    constructor
    · intro z; cases z
    · rintro ⟨d, hd, hd2⟩
      obtain ⟨c, hc, q1, _⟩ := h.day hd
      have := h1 c (List.mem_of_getElem? hc)
      omega
  rw [List.drop_zero] at this
  have this : firstBad (ws.map canR) 1 [] (wayR T os ws.length) = 0 := this
  rw [if_pos this]
/-- the weather that is placed -/
theorem placed_way {T : Nat} {ws lot : List (Int × Int)} (h1 : ∀ c ∈ ws, 1 ≤ c.1) (h : ∀ c ∈ ws, freeD T lot c ≠ 0) : Way T ws ((ws.map (freeD T lot)).map (optOf T)) ∧ ∀ (i : Nat) (c : Int × Int) (o : Option Int), ws[i]? = some c → ((ws.map (freeD T lot)).map (optOf T))[i]? = some o → okO lot c o = true := by
  have get : ∀ (i : Nat) (c : Int × Int), ws[i]? = some c → ((ws.map (freeD T lot)).map (optOf T))[i]? = some (optOf T (freeD T lot c)) := fun i c hc => by
    rw [List.getElem?_map, List.getElem?_map, hc]
    rfl
  refine ⟨⟨by rw [List.length_map, List.length_map], fun i c hc => ⟨_, get i c hc, ?_⟩⟩, fun i c o hc ho => ?_⟩
  · rcases freeD_cases (T := T) (lot := lot) (h1 c (List.mem_of_getElem? hc)) with ⟨z, _⟩ | ⟨_, _, z, _⟩
    · exact absurd z (h c (List.mem_of_getElem? hc))
    · exact z
  · rw [get i c hc] at ho
    cases ho
    rcases freeD_cases (T := T) (lot := lot) (h1 c (List.mem_of_getElem? hc)) with ⟨z, _⟩ | ⟨_, _, _, z⟩
    · exact absurd z (h c (List.mem_of_getElem? hc))
    · exact z
/-- some weather is tight in all of a lot if and only if no span is covered -/
theorem lot_iff {T : Nat} {ws lot : List (Int × Int)} (h1 : ∀ c ∈ ws, 1 ≤ c.1) (hl : ∀ s ∈ lot, ∃ a b : Nat, a < b ∧ b ≤ T ∧ s = ((a : Int), (b : Int))) :
    (∃ os ∈ allN T ws ws.length, ∀ s ∈ lot, isT ws (wayR T os ws.length) s.1.toNat s.2.toNat = true) ↔ ∀ c ∈ ws, freeD T lot c ≠ 0 := by
  constructor
  · rintro ⟨os, ho, h⟩ c hc z
    have hw := way_all.mp ho
    obtain ⟨i, hi⟩ := List.getElem?_of_mem hc
    obtain ⟨o, ho', hm⟩ := hw.2 i c hi
    have e1 := (freeD_zero (h1 c hc)).mp z o hm
    have e2 : okO lot c o = true := okO_lot.mpr fun s hs => by
      obtain ⟨a, b, _, hb, rfl⟩ := hl s hs
      exact (isT_way hb hw.1).mp (h _ hs) i c o hi ho'
    rw [e1] at e2
    cases e2
  · intro h
    obtain ⟨q1, q2⟩ := placed_way h1 h
    refine ⟨_, way_all.mpr q1, fun s hs => ?_⟩
    obtain ⟨a, b, _, hb, rfl⟩ := hl s hs
    exact (isT_way hb q1.1).mpr fun i c o hc ho => okO_lot.mp (q2 i c o hc ho) _ hs
/-- each stretch is tight in some weather -/
theorem one_way {T : Nat} {ws : List (Int × Int)} (h1 : ∀ c ∈ ws, 1 ≤ c.1 ∧ c.1 ≤ c.2) {a b : Nat} (hab : a < b) (hb : b ≤ T) : ∃ os ∈ allN T ws ws.length, isT ws (wayR T os ws.length) a b = true := by
  obtain ⟨os, ho, h⟩ := choose_all (T := T) (ws := ws) (p := fun c o => okO [((a : Int), (b : Int))] c o = true) fun c hc => by
    obtain ⟨o, q1, q2⟩ := one_ok (T := T) (s := ((a : Int), (b : Int))) (c := c) (by show (0 : Int) ≤ a; omega) (by show (a : Int) < b; omega) (by show (b : Int) ≤ T; omega) (h1 c hc).1 (h1 c hc).2
    exact ⟨o, q1, q2⟩
  exact ⟨os, ho, (isT_way hb (way_all.mp ho).1).mpr h⟩
end K27
end
section
set_option maxRecDepth 100000
set_option maxHeartbeats 4000000
namespace K27
open PySem PySem.Spec PyProof.Rows L2
theorem lim_lot : (("lot" : Str), He.Dv.int 14) ∈ limits := List.mem_of_getElem? (i := 9) rfl
theorem lim_seeds : (("seeds" : Str), He.Dv.int 120) ∈ limits := List.mem_of_getElem? (i := 3) rfl
section
variable {P : Program} {w : World} {K : PySem.W.Frag} {mg : Str → Option Value} {base : Heap}
abbrev cBT (K : PySem.W.Frag) : Addr := He.ga K "BadTable"
abbrev cBG (K : PySem.W.Frag) : Addr := He.ga K "BadGarden"
theorem x_BadTable (T : Txt w K mg) : XOk P w K mg base 1 "BadTable" (cBT K) ["self", "first", "last"] (spInit2 (cBT K) "first" "last") := by
  obtain ⟨fd, F⟩ := fi_BadTable T
  refine ⟨_, fd, xt_BadTable T, F.ok (CX := CX0) sc_BadTable___init__ (fun vs H Q E h => ?_) (fun cdv A outer s H vs Q E hr h => ?_), g_BadTable T, F.bindsN (fun _ _ _ _ _ _ us hl => match us, hl with | [_, _, _], _ => rfl)⟩
  · obtain ⟨a, v, u, rfl, _⟩ := h
    rfl
  · obtain ⟨a, v, u, rfl, ha, k⟩ := h
    refine ⟨_, PSs.nox (pss_cons (ps_expr (pe_seinit (se T) rfl (g_SeenError T) (pa_cons (pv 0) (pa_cons pe_str pa_nil))))
      (pss_cons (ps_ost (pv 0) (pv 1))
      (pss_one (ps_ost (pv 0) (pv 2))))), ?_⟩
    refine ⟨_, rfl, a, cBT K, [.str _], rfl, (by show 1 ≤ 1000; decide), (xt_BadTable T).oex, ha, ?_⟩
    refine ⟨_, rfl, _, rfl, a, cBT K, rfl, (xt_BadTable T).oex, xn_BadTable_first T, .inl ⟨ha, fun dx hd hne => ?_⟩⟩
    refine ⟨_, rfl, _, rfl, a, cBT K, rfl, (xt_BadTable T).oex, xn_BadTable_last T, .inr ⟨dx, _, upd_same, by rw [upd_ne hne, upd_same], by show 1 ≤ 900; decide, ?_⟩⟩
    exact k dx hd hne
theorem x_BadGarden (T : Txt w K mg) : XOk P w K mg base 1 "BadGarden" (cBG K) ["self", "row"] (spInit (cBG K) "row") := by
  obtain ⟨fd, F⟩ := fi_BadGarden T
  refine ⟨_, fd, xt_BadGarden T, F.ok (CX := CX0) sc_BadGarden___init__ (fun vs H Q E h => ?_) (fun cdv A outer s H vs Q E hr h => ?_), g_BadGarden T, F.bindsN (fun _ _ _ _ _ _ us hl => match us, hl with | [_, _], _ => rfl)⟩
  · obtain ⟨a, v, rfl, _⟩ := h
    rfl
  · obtain ⟨a, v, rfl, ha, k⟩ := h
    refine ⟨_, PSs.nox (pss_cons (ps_expr (pe_seinit (se T) rfl (g_SeenError T) (pa_cons (pv 0) (pa_cons pe_str pa_nil))))
      (pss_one (ps_ost (pv 0) (pv 1)))), ?_⟩
    refine ⟨_, rfl, a, cBG K, [.str _], rfl, (by show 1 ≤ 1000; decide), (xt_BadGarden T).oex, ha, ?_⟩
    exact ⟨_, rfl, _, rfl, a, cBG K, rfl, (xt_BadGarden T).oex, xn_BadGarden_row T, .inl ⟨ha, fun dx hd hne => k dx hd hne⟩⟩
def spWithin (K : PySem.W.Frag) : Sp := fun vs H Q E => ∃ (z : Str) (n m : Int), vs = [.str z, .int n, .int m] ∧ (n ≤ m → Q .non H) ∧ (m < n → Rz E H (cTM K) "what" (.str z))
theorem ok_check_within (T : Txt w K mg) : Ok P w K mg base (L2.CX P w) 4 "check_within" ["what", "number", "bound"] (spWithin K) := by
  refine Ok.defX (f_check_within T) (fun _ _ _ _ _ _ us hl => match us, hl with | [_, _, _], _ => rfl) sc_check_within (fun vs H Q E h => ?_) (fun f cdv A outer s H vs Q E hr h tk => ?_)
  · obtain ⟨z, n, m, rfl, _⟩ := h
    rfl
  · obtain ⟨z, n, m, rfl, k1, k2⟩ := h
    refine ⟨_, (pss_one (ps_if (pt_cmpR op_gt (pv 1) (pv 2) (nomark _)) (pss_one (ps_raise rfl tk (pmk_x (x_TooMany T) (hr.mono (by first | decide | omega)) rfl (pa_cons (pv 0) pa_nil)))) pss_nil)), ?_⟩
    refine ⟨_, rfl, _, rfl, _, _, rfl, rfl, _, rfl, ?_⟩
    refine ite2 (fun c => ?_) (fun c => ?_)
    · exact ⟨_, rfl, mko ((k2 (of_decide_eq_true c)).at (Same.refl H))⟩
    · exact k1 (by simpa using c)
/-- a stretch of these days -/
def StrOk (T : Int) (c : Int × Int) : Prop := 0 ≤ c.1 ∧ c.2 ≤ T ∧ c.1 < c.2
instance (T : Int) (c : Int × Int) : Decidable (StrOk T c) := by unfold StrOk; infer_instance
def spCStr (K : PySem.W.Frag) : Sp := fun vs H Q E => ∃ (x : V) (c : Int × Int) (d : Int), vs = [x, .int d] ∧ PairT H x c ∧ (StrOk d c → ∀ H', Same H H' → Q .non H') ∧ (¬ StrOk d c → Rz2 E H (cBT K) "first" "last" (.int c.1) (.int c.2))
theorem ok_check_stretch (T : Txt w K mg) : Ok P w K mg base (L2.CX P w) 4 "check_stretch" ["stretch", "days"] (spCStr K) := by
  refine Ok.defX (f_check_stretch T) (fun _ _ _ _ _ _ us hl => match us, hl with | [_, _], _ => rfl) sc_check_stretch (fun vs H Q E h => ?_) (fun f cdv A outer s H vs Q E hr h tk => ?_)
  · obtain ⟨x, c, d, rfl, _⟩ := h
    rfl
  · obtain ⟨x, c, d, rfl, hx, k1, k2⟩ := h
    refine ⟨_, (pss_cons (ps_asg (pv 0) (pg_tupK (K := K) (n := 2) rfl rfl (pgs_cons (pg_name (i := 2) sc_check_stretch.nd rfl (by first | exact Or.inl rfl | exact Or.inr rfl)) (pgs_cons (pg_name (i := 3) sc_check_stretch.nd rfl (by first | exact Or.inl rfl | exact Or.inr rfl)) pgs_nil))))
      (pss_one (ps_if (PW.pt (pw_or (pt_cmpR op_lt (pv 2) pe_int (nomark _)) (pw_or (pt_cmpR op_gt (pv 3) (pv 1) (nomark _)) (pw_or1 (pt_cmpR op_ge (pv 2) (pv 3) (nomark _)))))) (pss_one (ps_raise rfl tk (pmk_x (x_BadTable T) (hr.mono (by first | decide | omega)) rfl (pa_cons (pv 2) (pa_cons (pv 3) pa_nil))))) pss_nil))), ?_⟩
    refine ⟨_, rfl, hx.un rfl ?_⟩
    refine nxE (EvT.ifs (b := decide (c.1 < 0) || (decide (d < c.2) || decide (c.2 ≤ c.1))) ?_ fun H2 s2 => ?_)
    · exact EvT.or (EvT.test (Ev.lt (Ev.var rfl) Ev.c)) fun _ => EvT.or (EvT.test (Ev.gt (Ev.var rfl) (Ev.var rfl))) fun _ => EvT.test (Ev.ge (Ev.var rfl) (Ev.var rfl))
    refine ite2 (fun z => ?_) (fun z => ?_)
    · refine ⟨_, rfl, _, rfl, mko2 ((k2 fun h => ?_).at s2)⟩
      unfold StrOk at h
      simp only [Bool.or_eq_true, decide_eq_true_eq] at z
      omega
    · refine k1 ?_ H2 s2
      unfold StrOk
      simp only [Bool.or_eq_true, decide_eq_true_eq] at z
      omega
end
end K27
end
section
set_option maxRecDepth 100000
set_option maxHeartbeats 4000000
namespace K27
open PySem PySem.Spec PyProof.Rows L2
theorem _root_.L2.Rz.mono {E : XK} {H H' : Hp} {C : Addr} {f : Str} {v : V} (r : Rz E H C f v) (e : Same H H') : Rz E H' C f v := fun d H2 s hd => r d H2 (e.trans s) hd
theorem _root_.L2.Rz2.mono {E : XK} {H H' : Hp} {C : Addr} {f g : Str} {v u : V} (r : Rz2 E H C f g v u) (e : Same H H') : Rz2 E H' C f g v u := fun d H2 s hd => r d H2 (e.trans s) hd
theorem one_can_ws {rs : List Q4} (h : OneCan rs) : rs = (rs.map fun r => (r.1, r.2.1)).map canR := by
  rw [List.map_map]
  have : ∀ l : List Q4, (∀ r ∈ l, r.2.2.1 = 1 ∧ r.2.2.2 = 1) → l = l.map (canR ∘ fun r => (r.1, r.2.1)) := fun l => by
    induction l with
    | nil => exact fun _ => rfl
    | cons r t ih =>
      intro h
      obtain ⟨h1, h2⟩ := h r List.mem_cons_self
      rw [List.map_cons, ← ih fun x hx => h x (List.mem_cons_of_mem _ hx)]
      obtain ⟨a, b, c, d⟩ := r
      obtain rfl : c = 1 := h1
      obtain rfl : d = 1 := h2
      rfl
  exact this rs h
theorem canR_inj {ws ws' : List (Int × Int)} (h : ws.map canR = ws'.map canR) : ws = ws' := by
  have e : (ws.map canR).map (fun r => (r.1, r.2.1)) = (ws'.map canR).map (fun r => (r.1, r.2.1)) := by rw [h]
  rw [List.map_map, List.map_map] at e
  have id1 : (fun (r : Q4) => (r.1, r.2.1)) ∘ canR = id := rfl
  rw [id1, List.map_id, List.map_id] at e
  exact e
section
variable {P : Program} {w : World} {K : PySem.W.Frag} {mg : Str → Option Value} {base : Heap}
def spLotT (K : PySem.W.Frag) : Sp := fun vs H Q E => ∃ (T : Nat) (p l : Addr) (rs : List Q4) (ss : List V) (lot : List (Int × Int)), vs = [.ref p, .ref l] ∧ AlmAt K H p T rs ∧ H l = some (.lst ss) ∧ Paired (PairT H) ss lot ∧ lot.length ≤ 1000 ∧ T ≤ 24 ∧ rs.length ≤ 40 ∧ (∀ r ∈ rs, GoodR r ∧ r.2.1 ≤ 1000) ∧
  (14 < lot.length → Rz E H (cTM K) "what" (.str "lot")) ∧ (lot.length ≤ 14 → ∀ n, BadCan rs n → Rz E H (cSk K) "row" (.int ((n : Int) + 1))) ∧
  (lot.length ≤ 14 → OneCan rs → ∀ (n : Nat) s, lot[n]? = some s → ¬ StrOk T s → (∀ (m : Nat) s', m < n → lot[m]? = some s' → StrOk T s') → Rz2 E H (cBT K) "first" "last" (.int s.1) (.int s.2)) ∧
  (lot.length ≤ 14 → (∀ s ∈ lot, StrOk T s) → ∀ ws : List (Int × Int), rs = ws.map canR →
    (∀ (n : Nat) (c : Int × Int) r H', ws[n]? = some c → freeD T lot c = 0 → (∀ i c', i < n → ws[i]? = some c' → freeD T lot c' ≠ 0) → Same H H' → H' r = some (.tup [.str "rain", .int ((n : Int) + 1)]) → Q (.ref r) H') ∧
    ((∀ c ∈ ws, freeD T lot c ≠ 0) → ∀ r m H', Same H H' → H' r = some (.tup [.str "weather", .ref m]) → WeaT H' m (wayR T ((ws.map (freeD T lot)).map (optOf T)) ws.length) → Q (.ref r) H'))
theorem ok_lot_together (T : Txt w K mg) : Ok P w K mg base (L2.CX P w) 7 "lot_together" ["almanac", "stretches"] (spLotT K) := by
  refine Ok.defX (f_lot_together T) (fun _ _ _ _ _ _ us hl => match us, hl with | [_, _], _ => rfl) sc_lot_together (fun vs H Q E h => ?_) (fun f cdv A outer s H vs Q E hr h tk => ?_)
  · obtain ⟨TT, p, l, rs, ss, lot, rfl, _⟩ := h
    rfl
  · obtain ⟨TT, p, l, rs, ss, lot, rfl, hA, hl, hP, hll, hT, hrl, hg, kt, ks, kb, k⟩ := h
    refine ⟨_, (pss_cons (ps_expr (pe_okS (ok_check T) (hr.mono (by first | decide | omega)) rfl (fun σ => passAt tk σ) (pa_cons pe_str (pa_cons (pe_callB (len_seqK (K := K) rfl) rfl (n_len T) (by decide +kernel) (pa_cons (pv 1) pa_nil)) pa_nil))))
      (pss_cons (ps_expr (pe_okS (ok_check_one_can T) (hr.mono (by first | decide | omega)) rfl (fun σ => passAt tk σ) (pa_cons (pv 0) pa_nil)))
      (pss_cons (ps_for (passes_of rfl) rfl (pi_listK (K := K) rfl (pv 1)) (pg_name (i := 2) sc_lot_together.nd rfl (by first | exact Or.inl rfl | exact Or.inr rfl))
        (pss_one (ps_expr (pe_okS (ok_check_stretch T) (hr.mono (by first | decide | omega)) rfl (fun σ => passAt tk σ) (pa_cons (pv 2) (pa_cons (pe_okM0 (okm_Almanac_days T) (cl_Almanac T) (pv 0) (hr.mono (by first | decide | omega)) pass0) pa_nil))))))
      (pss_cons (ps_asg (pe_ok (ok_lot_places T) (hr.mono (by first | decide | omega)) rfl pass0 (pa_cons (pv 0) (pa_cons (pv 1) pa_nil))) (pg_tupK (K := K) (n := 2) rfl rfl (pgs_cons (pg_name (i := 3) sc_lot_together.nd rfl (by first | exact Or.inl rfl | exact Or.inr rfl)) (pgs_cons (pg_name (i := 4) sc_lot_together.nd rfl (by first | exact Or.inl rfl | exact Or.inr rfl)) pgs_nil))))
      (pss_cons (ps_if (pt_cmpR op_gt (pv 3) pe_int (nomark _)) (pss_one (ps_ret (pe_tup (pa_cons pe_str (pa_cons (pv 3) pa_nil))))) pss_nil)
      (pss_one (ps_ret (pe_tup (pa_cons pe_str (pa_cons (pe_ok (ok_placed_weather T) (hr.mono (by first | decide | omega)) rfl pass0 (pa_cons (pe_okM0 (okm_Almanac_days T) (cl_Almanac T) (pv 0) (hr.mono (by first | decide | omega)) pass0) (pa_cons (pv 4) pa_nil))) pa_nil)))))))))), ?_⟩
    have hsl : ss.length = lot.length := Paired.length hP
    refine ⟨_, rfl, _, _, rfl, .inl (SqL.of hl), "lot", _, 14, rfl, lim_lot, fun c1 => ?_, fun c1 => kt (by omega)⟩
    have c1 : lot.length ≤ 14 := by omega
    refine ⟨_, rfl, p, TT, rs, rfl, hA, hrl, fun hone H1 s1 => ?_, fun n r h1 h2 h3 => ks c1 n ⟨r, h1, h2, h3⟩⟩
    refine ⟨_, rfl, l, rfl, ⟨_, SqL.of (s1 _ _ hl)⟩, for_list (K := K) (a := l) (xs := ss) (fun i σ H' => ∃ v2, σ = [some (.ref p), some (.ref l), v2, none, none] ∧ Same H H' ∧ ∀ (m : Nat) s, m < i → lot[m]? = some s → StrOk TT s) ⟨_, rfl, s1, fun m s h => by omega⟩ (fun _ _ _ _ ⟨_, _, e, _⟩ => SqL.of (e _ _ hl)) ?_ ?_⟩
    · rintro i x σ H2 hx ⟨v2, rfl, e2, hok⟩
      obtain ⟨s, hs, hr⟩ := paired_get hP hx
      have hr := hr.same e2
      have hA2 := hA.same e2
      obtain ⟨dx, l0, xs0, i1, i2, i3⟩ := id hA2
      refine gnE ?_
      refine ⟨_, rfl, _, rfl, p, dx, _, rfl, i1, af_no (by decide +kernel) (by decide +kernel), p, TT, rs, rfl, hA2, ?_⟩
      refine ⟨x, s, TT, rfl, hr, fun ho H3 s3 => ⟨_, rfl, e2.trans s3, fun m s' hm hs' => ?_⟩, fun ho => (kb c1 hone i s hs ho fun m s' hm hs' => hok m s' hm hs').mono e2⟩
      by_cases e : m = i
      · rw [e, hs] at hs'
        cases hs'
        exact ho
      · exact hok m s' (by omega) hs'
    · rintro σ H2 ⟨v2, rfl, e2, hok⟩
      have hws := one_can_ws hone
      generalize rs.map (fun r => (r.1, r.2.1)) = ws at hws
      subst hws
      obtain ⟨k1, k2⟩ := k c1 (fun s hs => by
        obtain ⟨m, hm⟩ := List.getElem?_of_mem hs
        exact hok m s (by rw [hsl]; exact (List.getElem?_eq_some_iff.mp hm).1) hm) ws rfl
      have hA2 := hA.same e2
      have hwl : ws.length ≤ 40 := by rw [List.length_map] at hrl; exact hrl
      have hgw : ∀ c ∈ ws, 1 ≤ c.1 ∧ c.1 ≤ c.2 ∧ c.2 ≤ 1000 := fun c hc => by
        obtain ⟨⟨q1, q2, _⟩, q3⟩ := hg (canR c) (List.mem_map.mpr ⟨c, hc, rfl⟩)
        exact ⟨q1, q2, q3⟩
      refine ⟨_, rfl, _, rfl, TT, p, l, ws, ss, lot, rfl, hA2, e2 _ _ hl, Paired.mapP hP fun _ _ z => z.same e2, hll, hT, hwl, hgw, fun n c r m H3 hc hz hno s3 g3 g3' => ?_, fun hall r m H3 s3 g3 g3' => ?_⟩
      · refine ⟨r, _, rfl, SqT.of g3, rfl, _, _, rfl, _, _, rfl, rfl, ?_⟩
        refine ⟨_, rfl, _, _, rfl, rfl, _, rfl, ?_⟩
        rw [decide_eq_true (by omega)]
        refine ⟨_, rfl, (by show 2 ≤ sizeLine; decide), fun t ht => ?_⟩
        obtain ⟨s4, g4⟩ := new2 (.tup [.str "rain", .int ((n : Int) + 1)]) ht
        exact k1 n c t _ hc hz hno (e2.trans (s3.trans s4)) g4
      · refine ⟨r, _, rfl, SqT.of g3, rfl, _, _, rfl, _, _, rfl, rfl, ?_⟩
        refine ⟨_, rfl, _, _, rfl, rfl, _, rfl, ?_⟩
        have e3 := e2.trans s3
        have hA3 := hA.same e3
        obtain ⟨dx, l0, xs0, i1, i2, i3⟩ := id hA3
        refine ⟨_, rfl, p, dx, _, rfl, i1, af_no (by decide +kernel) (by decide +kernel), p, TT, ws.map canR, rfl, hA3, ?_⟩
        refine ⟨_, rfl, TT, m, ws.map (freeD TT lot), rfl, g3', hT, by rw [List.length_map]; exact hwl, fun d hd => ?_, fun pw rw' H4 hpw s4 hG => ⟨(by show 2 ≤ sizeLine; decide), fun t ht => ?_⟩⟩
        · obtain ⟨c, hc, rfl⟩ := List.mem_map.mp hd
          rcases freeD_cases (T := TT) (lot := lot) (hgw c hc).1 with ⟨z, _⟩ | ⟨z, _⟩
          · exact absurd z (hall c hc)
          · exact z
        · obtain ⟨s5, g5⟩ := new2 (.tup [.str "weather", .ref pw]) ht
          rw [List.length_map] at hG
          exact k2 hall t pw _ (e3.trans (s4.trans s5)) g5 ((hG.same s5).wea)
end
end K27
end
section
set_option maxRecDepth 100000
set_option maxHeartbeats 4000000
namespace L2
open PySem PySem.Spec PyProof.Rows
/-! ### {(a, b): v for ..}: one clause, the keys tuples -/
abbrev dC1 (ke ve ta ia : Expr) (fa : List Expr) (sc : Scope) (ps : Pos) : Expr := .DictComp ke ve [⟨ta, ia, fa, 0⟩] sc ps
section
variable {prog : Program} {w : World} {A : Around} {R : Result → Shared → Prop} {s : Shared} {ke ve ta ia : Expr} {fa : List Expr} {sc : Scope} {ps : Pos} {it acc : Value} {D : Addr} {en : Env}
theorem d1_turn : compTurn (dC1 ke ve ta ia fa sc ps) 0 it (.ref D) en = (do
    standAt ia.pos
    match ← pyNext it with
    | none => pure (.done .next)
    | some v =>
      letOwnedTupleGo ta it v; assign ta en v
      let mut z := true
      for c in fa do
        if z then z ← isTrue c en (eval c en)
      if z then
        (do
          let k1 ← eval ke en
          let v1 ← holding [k1] (eval ve en)
          standAt { ke.pos with endLine := ve.pos.endLine, endCol := ve.pos.endCol }
          holding [k1, v1] (dictSet D k1 v1))
      again (.compLoop (dC1 ke ve ta ia fa sc ps) 0 it (.ref D) en)) := by rfl
theorem d1_in (I : Nat → Shared → Prop)
    (turn : ∀ n s, I n s → wpAny (model prog w) A (pyNext it) (fun r s1 => match r with
      | none => R (.ok .next) s1
      | some v => wpAny (model prog w) A (letOwnedTupleGo ta it v) (fun _ s2 =>
          wpAny (model prog w) A (assign ta en v) (fun _ s3 => wpAny (model prog w) A (tsL fa en) (fun z s4 =>
            if z = true then wpAny (model prog w) A (eval ke en) (fun k1 s5 =>
              wpAny (model prog w) A (eval ve en) (fun v1 s6 => wpAny (model prog w) A (dictSet D k1 v1) (fun _ s7 => ∃ m, m < n ∧ I m s7) (nB prog w A en R) s6) (nB prog w A en R) s5) (nB prog w A en R) s4
            else ∃ m, m < n ∧ I m s4) (nB prog w A en R) s3) (nB prog w A en R) s2) (nB prog w A en R) s1) (nB prog w A en R) s)
    (n : Nat) (h : I n s) : codeAny (model prog w) A (.compLoop (dC1 ke ve ta ia fa sc ps) 0 it (.ref D) en) R s := by
  refine codeAny_loop rfl I (fun n s hn => ?_) n h
  show wpAny _ A ((compTurn (dC1 ke ve ta ia fa sc ps) 0 it (.ref D) en).onRaise fun x => do noteFrame x en; theTreesLotGoes x) _ _ s
  refine wpAny_noted ?_
  rw [d1_turn]
  refine wpAny_bind (wpAny_standAt (wpAny_bind (wpAny_mono (turn n s hn) (fun r s1 g1 => ?_) fun _ _ q => q)))
  rcases r with _ | v
  · exact wpAny_pure g1
  · refine wpAny_bind (wpAny_mono g1 (fun _ s2 g2 => ?_) fun _ _ q => q)
    refine wpAny_bind (wpAny_mono g2 (fun _ s3 g3 => wpAny_bind (wpAny_mono g3 (fun z s4 g4 => ?_) fun _ _ q => q)) fun _ _ q => q)
    rcases z with _ | _
    · exact wpAny_pure ⟨rfl, g4⟩
    · exact wpAny_bind (wpAny_bind (wpAny_mono g4 (fun k1 s5 g5 => wpAny_bind (wpAny_holding (wpAny_mono g5 (fun v1 s6 g6 =>
        wpAny_bind (wpAny_standAt (wpAny_holding (wpAny_mono g6 (fun _ s7 g7 => wpAny_pure ⟨rfl, g7⟩) fun _ _ q => q)))) fun _ _ q => q))) fun _ _ q => q))
end
def tDc1 (wi : TI) (g : TG) (tt : TT) (tk tv : TE) (vs : List Nat) : TE := fun σ H Q => wi σ H fun J H1 => ∀ D, H1 D = none → ∃ W : Nat → Nat → Hp → Prop,
  (∃ m, W 0 m (upd H1 D (.dT []))) ∧ ∀ i m H, W i m H → (J.stop i H ∧ Q (.ref D) H) ∨ (J.go i H ∧ ∃ Nx : Hp → Prop,
    (∀ H', Nx H' → ∃ m', m' < m ∧ W (i + 1) m' H') ∧ ∀ x H', J.yld i H x H' → g x (wipe σ vs) H' fun σ2 H2 => wipe σ2 vs = wipe σ vs ∧ tt σ2 H2 fun b H3 =>
      if b = true then tk σ2 H3 fun y H4 => tv σ2 H4 fun z H5 => ∃ a kvs k, y = .ref a ∧ H5 a = some (.tup (k.map kV)) ∧ H5 D = some (.dT kvs) ∧ kvs.length < sizeLine ∧ Nx (upd H5 D (.dT (putK kvs k z)))
      else Nx H3)
section
variable {X : Cx}
theorem d1_core {pins : List (Addr × Obj)} {s : Shared} {σ : St} {H : Hp} {Q : VK} {ke ve ta ia : Expr} {fa : List Expr} {sc : Scope} {own : List (Str × Nat)} {ps ps' : Pos} {wi : TI} {g : TG} {tt : TT} {tk tv : TE} {use : Option (Value → Sem Unit)} {Qf : Value → Shared → Prop}
    (hc : X.calm = true) (hu : X.A.units < cLine) (hN : X.N.Nodup) (I : Inv X pins σ H s) (hi : PI X ta ia wi) (ok : BlkOk X.N X.env.scope sc own)
    (hg : inB X sc fun Y => PG Y ta g) (ht : inB X sc fun Y => PTs Y fa tt) (hk : inB X sc fun Y => PE Y ke tk) (he : inB X sc fun Y => PE Y ve tv) (hs : ∀ x, foldedSetIterable ia X.env x = pure x)
    (h : tDc1 wi g tt tk tv (own.map (·.2)) σ H Q)
    (hR : ∀ D C s' m H', Inv X pins σ H' s' → Q (.ref D) H' → s'.heap.Ns C m → FpOk X pins H' C → compPost (model X.prog X.w) X.A X.xe use Qf (.ref D) C (.ok .next) s') :
    wpAny (model X.prog X.w) X.A (comprehension (dC1 ke ve ta ia fa sc ps) sc X.env ps' newDict false (eval ia X.env) use) Qf X.xe s := by
  have free : ∀ y ∈ sc.names, y.2 = .free → ∃ c, X.env.cells.lookup y.1 = some c := fun y hy e => (ok.free y hy e).elim (fun z => I.ok.has _ (.inl z)) fun z => I.ok.has _ (.inr z)
  refine wpAny_comprehension_free (use := use) rfl hs (closure_ok free) ok.kind (fun y hy e => by rw [ok.uniq y hy, e]) (thn (hi.run pins s σ H _ I h) fun xv s1 hx => thn hx fun itv s2 h2 => ?_)
  obtain ⟨it, fp, tn, J, H2, e, I2, T, st2, f2, q⟩ := h2
  subst e
  refine wpAny_newObj_type (newEnv_comp ?_)
  generalize hD : s2.heap.objs.size = D
  obtain ⟨W, ⟨m0, w0⟩, turn⟩ := q D (I2.hok.fresh (Nat.le_of_eq hD))
  generalize hs3 : ({ s2 with heap := s2.heap.push { cls := .type "dict", data := .dict #[] } } : Shared) = s3
  have h3 : s3.heap = s2.heap.push { cls := .type "dict", data := .dict #[] } := by rw [← hs3]
  have I3 : Inv X pins σ (upd H2 D (.dT [])) s3 := by
    rw [← hs3]
    refine I2.laid (t' := s2.toks) (fun b o e => Heap.get?_push_of_some _ e) (Nat.le_of_eq hD) ?_
    rw [← hD]
    exact dt_empty s2.heap I2.big
  have f3 : ∀ b ∈ fp, FpOk X pins (upd H2 D (.dT [])) b ∧ b < s3.heap.objs.size := fun b hb => by
    obtain ⟨o, eo, _⟩ := T.obj _ _ st2 b hb
    have lt := Heap.lt_size eo
    refine ⟨⟨?_, (f2 b hb).2⟩, by rw [h3, Heap.size_push]; exact Nat.lt_succ_of_lt lt⟩
    rw [upd_ne (by rw [← hD]; exact Nat.ne_of_lt lt)]
    exact (f2 b hb).1
  have st3 : tn 0 s3.heap := T.keep _ _ _ st2 fun b _ o e => by rw [h3]; exact Heap.get?_push_of_some _ e
  have I4 := block_start I3 ok hN f3
  generalize hcl : cellsFrom (s3.heap.objs.size + 1) sc.names (cloFrom X.env.cells sc.names []) = cl at I4
  have pg := hg s3 (upd H2 D (.dT [])) s3.heap.objs.size cl fp
  have pt := ht s3 (upd H2 D (.dT [])) s3.heap.objs.size cl fp
  have pk := hk s3 (upd H2 D (.dT [])) s3.heap.objs.size cl fp
  have pe := he s3 (upd H2 D (.dT [])) s3.heap.objs.size cl fp
  have nfp : ∀ b ∈ fp, (upd H2 D (.dT [])) b = none := fun b hb => (f3 b hb).1.1
  have goal0 : codeAny (model X.prog X.w) X.A (.compStart (dC1 ke ve ta ia fa sc ps) 0 (.ref it) (.ref D) (compEnvC sc cl s3.heap.objs.size X.env)) (compPost (model X.prog X.w) X.A X.xe use Qf (.ref D) s3.heap.objs.size)
      { s3 with heap := pushCells (s3.heap.push { cls := .type "dict", data := .dict #[] }) sc.names } := by
    generalize hce : compEnvC sc cl s3.heap.objs.size X.env = ce at I4 pg pt pk pe ⊢
    have cL : ce.locals = s3.heap.objs.size := by subst hce; rfl
    generalize hH3 : upd H2 D (.dT []) = H3 at I3 I4 pg pt pk pe w0 nfp f3
    generalize hs4 : ({ s3 with heap := pushCells (s3.heap.push { cls := .type "dict", data := .dict #[] }) sc.names } : Shared) = s4 at I4 ⊢
    have st4 : tn 0 s4.heap := T.keep _ _ _ st3 fun b _ o e => by rw [← hs4]; exact pushCells_keeps _ _ _ _ (Heap.get?_push_of_some _ e)
    have keepF : ∀ {σ' : St} {H' : Hp} {s' : Shared}, Inv (X.blk s3 H3 sc ce fp) [] σ' H' s' → (∀ b ∈ fp, H' b = none) → ∀ b ∈ fp, FpOk (X.blk s3 H3 sc ce fp) [] H' b := fun {σ' H' s'} I' hn b hb =>
      ⟨hn b hb, (I'.ok.exf b hb).1, I'.ok.exfs b hb, .inl hb, fun x c e => (I'.ok.exf b hb).2 x c e, fun p hp => by cases (show p ∈ ([] : List (Addr × Obj)) from hp)⟩
    -- what stands at the head of each turn
    let Hd : Nat → Shared → Prop := fun n s' => ∃ i H', Inv (X.blk s3 H3 sc ce fp) [] (wipe σ (own.map (·.2))) H' s' ∧ tn i s'.heap ∧ (∀ b ∈ fp, H' b = none) ∧ W i n H'
    refine codeAny_compStart_dict ?_ (T.self X.A 0 _ _ _ st4 ?_)
    all_goals
      refine d1_in Hd ?_ m0 ⟨0, H3, I4, st4, nfp, w0⟩
      rintro n s5 ⟨i, H5, I5, st5, n5, w5⟩
      rcases turn i n H5 w5 with ⟨stop, qq⟩ | ⟨go, Nx, hNx, step⟩
      · refine thnF (T.done (X.blk s3 H3 sc ce fp) rfl rfl rfl hc i [] s5 _ H5 (fun _ _ => False) I5 (keepF I5 n5) st5 stop) fun r s6 ⟨er, I6⟩ => ?_
        subst er
        have I7 : Inv X pins σ H5 s6 := I3.call' (ch := fp) I6.os I6.base I6.hok I6.bare fun b hb =>
          let z := (f3 b hb).1.2
          ⟨z.2.2.1, z.1, z.2.2.2.1, z.2.2.2.2⟩
        have nC : H5 s3.heap.objs.size = none := cL ▸ (show H5 ce.locals = none from I6.free)
        obtain ⟨m, hn, _⟩ := I6.loc
        exact hR D s3.heap.objs.size s6 m H5 I7 qq (cL ▸ (show s6.heap.Ns ce.locals m from hn)) (I3.fpOk (Nat.le_refl _) nC)
      · refine thnF (T.item (X.blk s3 H3 sc ce fp) rfl rfl rfl hc i [] s5 _ H5 (fun _ _ => False) I5 (keepF I5 n5) st5 go) fun r s6 ⟨u, er, h6⟩ => ?_
        subst er
        refine thnF h6 fun _ s7 ⟨x, H7, I7, r7, y7, st7, n7⟩ => ?_
        have P7 := I7.pinned (keepF I7 n7) (T.obj _ _ st7)
        refine thnF (pg.run _ s7 _ H7 x u _ P7 r7 (step x H7 y7)) fun _ s8 ⟨σ8, H8, I8, hw8, q8⟩ => ?_
        refine thnF (pt.run _ s8 σ8 H8 _ I8 q8) fun b s9 ⟨H9, I9, q9⟩ => ?_
        have back : ∀ {σ9 : St} {s' : Shared} {H' : Hp}, Inv (X.blk s3 H3 sc ce fp) ([] ++ pinsAt fp s7.heap) σ9 H' s' → (wipe σ (own.map (·.2))).length = σ9.length →
            (∀ (j : Nat) v, (wipe σ (own.map (·.2)))[j]? = some (some v) → σ9[j]? = some (some v)) → Nx H' → ∃ m, m < n ∧ Hd m s' := fun {σ9 s' H'} I' e1 e2 nx => by
          obtain ⟨m', lt, w'⟩ := hNx H' nx
          have stays : ∀ b ∈ fp, ∀ o, s7.heap.get? b = some o → s'.heap.get? b = some o ∧ H' b = none := fun b hb o e => by
            have z := I'.pin (b, o) (List.mem_append_right _ (List.mem_append_right _ (mem_pinsAt hb e)))
            exact ⟨z.1, z.2.1⟩
          refine ⟨m', lt, i + 1, H', (I'.unpinned (pins := [])).weak e1 e2, T.keep _ _ _ st7 fun b hb o e => (stays b hb o e).1, fun b hb => ?_, w'⟩
          obtain ⟨o, e, _⟩ := T.obj _ _ st7 b hb
          exact (stays b hb o e).2
        have e8 : (wipe σ (own.map (·.2))).length = σ8.length := by rw [← hw8, wipe_length]
        have k8 : ∀ (j : Nat) v, (wipe σ (own.map (·.2)))[j]? = some (some v) → σ8[j]? = some (some v) := fun j v e => (wipe_some (hw8.symm ▸ e)).1
        rcases b with _ | _
        · exact back I9 e8 k8 q9
        · refine thnF (pk.run _ s9 σ8 H9 _ I9 q9) fun y s17 ⟨yk, H17, I17, r17, q17⟩ => ?_
          refine thnF (pe.run _ s17 σ8 H17 _ I17 q17) fun z s18 ⟨yv, H18, I18, r18, a, kvs, kk, ey, ha, hDD, hz, nx⟩ => ?_
          subst ey
          obtain rfl : y = Value.ref a := r17
          exact d2_store (X := X.blk s3 H3 sc ce fp) hu I18 hDD ha hz r18 fun s19 I19 => back I19 e8 k8 nx
  subst hcl
  exact goal0
theorem pe_dc1 {ke ve ta ia : Expr} {fa : List Expr} {sc : Scope} {own : List (Str × Nat)} {ps : Pos} {wi : TI} {g : TG} {tt : TT} {tk tv : TE}
    (hc : X.calm = true) (hu : X.A.units < cLine) (hN : X.N.Nodup) (hi : PI X ta ia wi) (ok : BlkOk X.N X.env.scope sc own)
    (hg : inB X sc fun Y => PG Y ta g) (ht : inB X sc fun Y => PTs Y fa tt)
    (hk : inB X sc fun Y => PE Y ke tk) (he : inB X sc fun Y => PE Y ve tv) (hs : ∀ x, foldedSetIterable ia X.env x = pure x := by intro _; rfl) :
    PE X (.DictComp ke ve [⟨ta, ia, fa, 0⟩] sc ps) (tDc1 wi g tt tk tv (own.map (·.2))) := by
  refine ⟨fun pins s σ H Q I h => ?_⟩
  rw [arm_eval_DictComp]
  refine d1_core hc hu hN I hi ok hg ht hk he hs h fun D C s' m H' I' q hn f => ⟨m, hn, fun h'' sb => ?_⟩
  obtain ⟨a0, a1, a2, a3, a4, a5⟩ := f
  exact ⟨.ref D, H', I'.turned (t' := s'.toks) (fun b o hb e => (sb.2 b hb).trans e) a0 a1 a3 a4 a5, rfl, q⟩
end
end L2
end
section
set_option maxRecDepth 100000
set_option maxHeartbeats 4000000
namespace L2
open PySem PySem.Spec PyProof.Rows
/-! ### dicts keyed by couples of ints -/
abbrev keyP (c : Int × Int) : List Key := [.inl c.1, .inl c.2]
theorem keyP_inj {c d : Int × Int} (h : keyP c = keyP d) : c = d := by
  simp only [keyP, List.cons.injEq, Sum.inl.injEq, and_true] at h
  exact Prod.ext h.1 h.2
theorem keyP_kV {c : Int × Int} : (keyP c).map kV = [.int c.1, .int c.2] := rfl
/-- a set of couples, as the keys of a dict -/
def SetP (H : Hp) (d : Addr) (n : Nat) (p : Int × Int → Bool) : Prop := ∃ kvs, H d = some (.dT kvs) ∧ kvs.length ≤ n ∧ ∀ c, valV kvs (keyP c) = if p c = true then some (.bl true) else none
theorem SetP.same {H H' : Hp} {d : Addr} {n : Nat} {p : Int × Int → Bool} (e : Same H H') (h : SetP H d n p) : SetP H' d n p := by
  obtain ⟨kvs, h1, h2⟩ := h
  exact ⟨kvs, e _ _ h1, h2⟩
theorem SetP.congr {H : Hp} {d : Addr} {n : Nat} {p q : Int × Int → Bool} (h : SetP H d n p) (e : ∀ c, p c = q c) : SetP H d n q := by
  obtain ⟨kvs, h1, h2, h3⟩ := h
  exact ⟨kvs, h1, h2, fun c => by rw [← e c]; exact h3 c⟩
theorem SetP.get {H : Hp} {d : Addr} {n : Nat} {p : Int × Int → Bool} (h : SetP H d n p) {x : V} {c : Int × Int} (hx : PairT H x c) : DGet H d x (if p c = true then some (.bl true) else none) := by
  obtain ⟨kvs, h1, h2, h3⟩ := h
  obtain ⟨t, rfl, ht⟩ := hx
  rw [← h3 c]
  exact DGet.t h1 (by rw [keyP_kV]; exact ht)
theorem setP_put {kvs : List (List Key × V)} {p : Int × Int → Bool} {n : Nat} (h2 : kvs.length ≤ n) (h3 : ∀ c, valV kvs (keyP c) = if p c = true then some (.bl true) else none) (c : Int × Int) :
    (putK kvs (keyP c) (.bl true)).length ≤ n + 1 ∧ ∀ e, valV (putK kvs (keyP c) (.bl true)) (keyP e) = if (p e || decide (e = c)) = true then some (.bl true) else none := by
  refine ⟨Nat.le_trans (length_putK _ _ _) (by omega), fun e => ?_⟩
  rw [valV_put, h3 e]
  by_cases q : e = c
  · rw [if_pos (by rw [q]), decide_eq_true q, Bool.or_true, if_pos rfl]
  · rw [if_neg (fun z => q (keyP_inj z)), decide_eq_false q, Bool.or_false]
theorem dc1_list {K : PySem.W.Frag} {a D : Addr} {xs : List V} {g : TG} {tt : TT} {tk tv : TE} {vs : List Nat} {σ : St} {H1 : Hp} {Q : Hp → Prop} (Pv : Nat → Hp → Prop) (h0 : Pv 0 (upd H1 D (.dT []))) (hl : ∀ i H, i ≤ xs.length → Pv i H → SqL K H a xs)
    (hs : ∀ i x H, xs[i]? = some x → Pv i H → g x (wipe σ vs) H fun σ2 H2 => wipe σ2 vs = wipe σ vs ∧ tt σ2 H2 fun b H3 =>
      if b = true then tk σ2 H3 fun y H4 => tv σ2 H4 fun z H5 => ∃ a kvs k, y = .ref a ∧ H5 a = some (.tup (k.map kV)) ∧ H5 D = some (.dT kvs) ∧ kvs.length < sizeLine ∧ Pv (i + 1) (upd H5 D (.dT (putK kvs k z))) else Pv (i + 1) H3)
    (hd : ∀ H, Pv xs.length H → Q H) :
    ∃ W : Nat → Nat → Hp → Prop, (∃ m, W 0 m (upd H1 D (.dT []))) ∧ ∀ i m H, W i m H → ((Itl K a).stop i H ∧ Q H) ∨ ((Itl K a).go i H ∧ ∃ Nx : Hp → Prop,
      (∀ H', Nx H' → ∃ m', m' < m ∧ W (i + 1) m' H') ∧ ∀ x H', (Itl K a).yld i H x H' → g x (wipe σ vs) H' fun σ2 H2 => wipe σ2 vs = wipe σ vs ∧ tt σ2 H2 fun b H3 =>
        if b = true then tk σ2 H3 fun y H4 => tv σ2 H4 fun z H5 => ∃ a kvs k, y = .ref a ∧ H5 a = some (.tup (k.map kV)) ∧ H5 D = some (.dT kvs) ∧ kvs.length < sizeLine ∧ Nx (upd H5 D (.dT (putK kvs k z)))
        else Nx H3) := by
  refine ⟨fun i m H => m = xs.length - i ∧ i ≤ xs.length ∧ Pv i H, ⟨_, rfl, Nat.zero_le _, h0⟩, fun i m H w => ?_⟩
  obtain ⟨rfl, hi, p⟩ := w
  have q := hl i H hi p
  rcases Nat.lt_or_ge i xs.length with hlt | hge
  · refine .inr ⟨⟨xs, _, q, List.getElem?_eq_getElem hlt⟩, Pv (i + 1), fun H' p' => ⟨xs.length - (i + 1), by omega, rfl, hlt, p'⟩, ?_⟩
    rintro x H' ⟨rfl, y⟩
    exact hs i x _ (y xs q) p
  · obtain rfl : i = xs.length := by omega
    exact .inl ⟨⟨xs, q, Nat.le_refl _⟩, hd H p⟩
/-- {x: True for x in couples} -/
theorem dc1_set {K : PySem.W.Frag} {a D : Addr} {xs : List V} {L : List (Int × Int)} {i0 : Nat} {σ : St} {H1 : Hp} {Q : Hp → Prop} (hi0 : i0 < σ.length) (hD : H1 D = none) (ha : H1 a = some (.lst xs)) (hP : Paired (PairT H1) xs L) (hz : xs.length < 100000)
    (hd : ∀ H', Same H1 H' → SetP H' D xs.length (fun c => decide (c ∈ L)) → Q H') :
    ∃ W : Nat → Nat → Hp → Prop, (∃ m, W 0 m (upd H1 D (.dT []))) ∧ ∀ i m H, W i m H → ((Itl K a).stop i H ∧ Q H) ∨ ((Itl K a).go i H ∧ ∃ Nx : Hp → Prop,
      (∀ H', Nx H' → ∃ m', m' < m ∧ W (i + 1) m' H') ∧ ∀ x H', (Itl K a).yld i H x H' → gName i0 x (wipe σ [i0]) H' fun σ2 H2 => wipe σ2 [i0] = wipe σ [i0] ∧ tYes σ2 H2 fun b H3 =>
        if b = true then tVar i0 σ2 H3 fun y H4 => tC (.bl true) σ2 H4 fun z H5 => ∃ a kvs k, y = .ref a ∧ H5 a = some (.tup (k.map kV)) ∧ H5 D = some (.dT kvs) ∧ kvs.length < sizeLine ∧ Nx (upd H5 D (.dT (putK kvs k z)))
        else Nx H3) := by
  refine dc1_list (K := K) (a := a) (xs := xs) (fun i H' => Same H1 H' ∧ SetP H' D i (fun c => decide (c ∈ L.take i))) ⟨same_new hD, [], upd_same, Nat.zero_le _, fun c => by rw [valV_nil]; simp⟩ (fun i H' _ h => SqL.of (h.1 _ _ ha)) ?_ ?_
  · rintro i x H' hx ⟨e, kvs, k1, k2, k3⟩
    have hi : i < xs.length := (List.getElem?_eq_some_iff.mp hx).1
    obtain ⟨c, hc, hr⟩ := paired_get hP hx
    obtain ⟨t, rfl, ht⟩ := hr.same e
    obtain ⟨q1, q2⟩ := setP_put k2 k3 c
    refine gnE ⟨?_, ?_⟩
    · show ((wipe σ [i0]).set i0 _).set i0 none = (σ.set i0 none)
      show ((σ.set i0 none).set i0 _).set i0 none = (σ.set i0 none)
      rw [List.set_set, List.set_set]
    · refine ⟨.ref t, ?_, t, kvs, keyP c, rfl, by rw [keyP_kV]; exact ht, k1, line_lt (by omega), same_mut e hD, _, upd_same, q1, fun e' => ?_⟩
      · show ((σ.set i0 none).set i0 (some (V.ref t)))[i0]? = _
        rw [List.getElem?_set_self (by rw [List.length_set]; exact hi0)]
      · rw [q2 e']
        rw [take_get hc]
        have : (decide (e' ∈ L.take i) || decide (e' = c)) = decide (e' ∈ L.take i ++ [c]) := by
          rw [Bool.eq_iff_iff]
          simp
        rw [this]
  · rintro H' ⟨e, hS⟩
    rw [Paired.length hP, List.take_length] at hS
    exact hd H' e (by rw [Paired.length hP]; exact hS)
end L2
end
section
set_option maxRecDepth 100000
set_option maxHeartbeats 4000000
namespace K27
open PySem PySem.Spec PyProof.Rows L2
theorem wrong_or {rs : List Q4} {T : Nat} {W : List (List (Int × Int))} : wrongOf rs T W = -1 ∨ 0 ≤ wrongOf rs T W := by
  have := firstBad_nn rs W (k := 1) (g := []) (by omega)
  unfold wrongOf
  split
  · split
    · exact .inl rfl
    · exact .inr this
  · exact .inr (by omega)
theorem right_len {rs : List Q4} {T : Nat} {W : List (List (Int × Int))} (h : wrongOf rs T W = -1) : W.length = T ∧ firstBad rs 1 [] W = 0 := by
  have := firstBad_nn rs W (k := 1) (g := []) (by omega)
  unfold wrongOf at h
  split at h
  · split at h
    · exact ⟨by assumption, by assumption⟩
    · omega
  · omega
theorem keysL_mem {M : Nat → Nat → Int} {T : Nat} {c : Int × Int} (h : c ∈ keysL M T) : ∃ a b : Nat, a < b ∧ b ≤ T ∧ c = ((a : Int), (b : Int)) := strL_mem (List.mem_filter.mp h).1
def undL (rs : List Q4) (T : Nat) (Ws : List (List (List (Int × Int)))) : List (Int × Int) := (keysL (tabR rs) T).filter fun c => Ws.all fun W => !tgB (tabR rs) (fellBy W) c
def WeaV (H : Hp) (y : V) (W : List (List (Int × Int))) : Prop := ∃ a, y = .ref a ∧ WeaT H a W
theorem WeaV.same {H H' : Hp} (e : Same H H') {y : V} {W : List (List (Int × Int))} (h : WeaV H y W) : WeaV H' y W := by
  obtain ⟨a, rfl, h⟩ := h
  exact ⟨a, rfl, h.same e⟩
theorem undL_step {rs : List Q4} {T i : Nat} {Ws : List (List (List (Int × Int)))} {W : List (List (Int × Int))} (h : Ws[i]? = some W) : (undL rs T (Ws.take i)).filter (fun c => !tgB (tabR rs) (fellBy W) c) = undL rs T (Ws.take (i + 1)) := by
  unfold undL
  rw [List.filter_filter, take_get h]
  congr 1
  funext c
  rw [List.all_append, Bool.and_comm]
  simp
theorem eqv_nil {L : List (Int × Int)} : PyData.eqv (.list (L.map dP)) (.list []) = decide (L = []) := by
  cases L with
  | nil => rfl
  | cons c r => rfl
section
variable {P : Program} {w : World} {K : PySem.W.Frag} {mg : Str → Option Value} {base : Heap}
def spUndec (K : PySem.W.Frag) : Sp := fun vs H Q E => ∃ (T : Nat) (p wl : Addr) (rs : List Q4) (ys : List V) (Ws : List (List (List (Int × Int)))), vs = [.ref p, .ref wl] ∧ AlmAt K H p T rs ∧ H wl = some (.lst ys) ∧ Paired (WeaV H) ys Ws ∧ T ≤ 24 ∧ rs.length ≤ 40 ∧ (∀ r ∈ rs, GoodR r) ∧ (∀ W ∈ Ws, W.length ≤ 100 ∧ total W ≤ 2000) ∧
  (2000 < Ws.length → Rz E H (cTM K) "what" (.str "weathers")) ∧ (Ws.length ≤ 2000 → ∀ n, BadCan rs n → Rz E H (cSk K) "row" (.int ((n : Int) + 1))) ∧
  (Ws.length ≤ 2000 → OneCan rs → ∀ (n : Nat) W, Ws[n]? = some W → wrongOf rs T W ≠ -1 → (∀ (m : Nat) W', m < n → Ws[m]? = some W' → wrongOf rs T W' = -1) → Rz E H (cWe K) "day" (.int (wrongOf rs T W))) ∧
  (Ws.length ≤ 2000 → OneCan rs → (∀ W ∈ Ws, wrongOf rs T W = -1) → ∀ H', Same H H' → (undL rs T Ws = [] → Q .non H') ∧ ∀ x c r, undL rs T Ws = c :: r → PairT H' x c → Q x H')
theorem ok_first_undecided (T : Txt w K mg) : Ok P w K mg base (L2.CX P w) 8 "first_undecided" ["almanac", "weathers"] (spUndec K) := by
  refine Ok.defX (f_first_undecided T) (fun _ _ _ _ _ _ us hl => match us, hl with | [_, _], _ => rfl) sc_first_undecided (fun vs H Q E h => ?_) (fun f cdv A outer s H vs Q E hr h tk => ?_)
  · obtain ⟨TT, p, wl, rs, ys, Ws, rfl, _⟩ := h
    rfl
  · obtain ⟨TT, p, wl, rs, ys, Ws, rfl, hA, hwl, hP, hT, hrl, hg, hWs, kt, ks, kw, k⟩ := h
    obtain ⟨tl, htl⟩ := gi_LISTED_lots T
    refine ⟨_, (pss_cons (ps_expr (pe_okS (ok_check_within T) (hr.mono (by first | decide | omega)) rfl (fun σ => passAt tk σ) (pa_cons pe_str (pa_cons (pe_callB (len_seqK (K := K) rfl) rfl (n_len T) (by decide +kernel) (pa_cons (pv 1) pa_nil)) (pa_cons (pe_glob (v := .int 2000) rfl htl ⟨_, rfl⟩) pa_nil)))))
      (pss_cons (ps_expr (pe_okS (ok_check_one_can T) (hr.mono (by first | decide | omega)) rfl (fun σ => passAt tk σ) (pa_cons (pv 0) pa_nil)))
      (pss_cons (ps_for (passes_of rfl) rfl (pi_listK (K := K) rfl (pv 1)) (pg_name (i := 2) sc_first_undecided.nd rfl (by first | exact Or.inl rfl | exact Or.inr rfl))
        (pss_one (ps_expr (pe_okS (ok_check_weather T) (hr.mono (by first | decide | omega)) rfl (fun σ => passAt tk σ) (pa_cons (pv 0) (pa_cons (pv 2) pa_nil))))))
      (pss_cons (ps_set (i := 3) sc_first_undecided.nd rfl (by first | exact Or.inl rfl | exact Or.inr rfl) (pe_ok (ok_span_counts T) (hr.mono (by first | decide | omega)) rfl pass0 (pa_cons (pv 0) pa_nil)))
      (pss_cons (ps_set (i := 4) sc_first_undecided.nd rfl (by first | exact Or.inl rfl | exact Or.inr rfl) (pe_okS (ok_key_stretches T) (hr.mono (by first | decide | omega)) rfl (fun σ => passAt tk σ) (pa_cons (pv 0) pa_nil)))
      (pss_cons (ps_for (passes_of rfl) rfl (pi_listK (K := K) rfl (pv 1)) (pg_name (i := 2) sc_first_undecided.nd rfl (by first | exact Or.inl rfl | exact Or.inr rfl))
        (pss_cons (ps_set (i := 6) sc_first_undecided.nd rfl (by first | exact Or.inl rfl | exact Or.inr rfl) (pe_dc1 (own := [("stretch", 5)]) rfl hr.units0 sc_first_undecided.nd (pi_listK (K := K) rfl (pe_ok (ok_tight_among T) (hr.mono (by first | decide | omega)) rfl pass0 (pa_cons (pv 2) (pa_cons (pv 3) (pa_cons (pv 4) pa_nil))))) (blkOk_by (N := ["almanac", "weathers", "weather", "counts", "left", "stretch", "tight"]) (sc := defScope s_first_undecided) (by decide +kernel)) (fun _ _ _ _ _ => (pg_name (i := 5) sc_first_undecided.nd rfl (by first | exact Or.inl rfl | exact Or.inr rfl))) (fun _ _ _ _ _ => pts_nil) (fun _ _ _ _ _ => (pv 5)) (fun _ _ _ _ _ => pe_bl)))
      (pss_one (ps_setLc (i := 4) (own := [("stretch", 5)]) rfl sc_first_undecided.nd rfl rfl (sw_true rfl rfl rfl (by decide +kernel)) (pi_listK (K := K) rfl (pv 4)) (blkOk_by (N := ["almanac", "weathers", "weather", "counts", "left", "stretch", "tight"]) (sc := defScope s_first_undecided) (by decide +kernel)) (fun _ _ _ _ _ => (pg_name (i := 5) sc_first_undecided.nd rfl (by first | exact Or.inl rfl | exact Or.inr rfl))) (fun _ _ _ _ _ => pts_one (pt_cmp (pc_dnotin (du hr.units) (pv 5) (pv 6)))) (fun _ _ _ _ _ => (pv 5))))))
      (pss_one (ps_ret (pe_ifExp (pt_cmpR (eqDK (K := K) rfl hr.units) (pv 4) (pe_lst pa_nil) (nomark _)) pe_non (pe_ix (ix_listK (K := K) rfl) (pv 4) pe_int (fun _ _ => rfl))))))))))), ?_⟩
    have hyl : ys.length = Ws.length := Paired.length hP
    refine ⟨_, rfl, _, _, rfl, .inl (SqL.of hwl), "weathers", _, 2000, rfl, fun c1 => ?_, fun c1 => kt (by omega)⟩
    have c1 : Ws.length ≤ 2000 := by omega
    refine ⟨_, rfl, p, TT, rs, rfl, hA, hrl, fun hone H1 s1 => ?_, fun n r h1 h2 h3 => ks c1 n ⟨r, h1, h2, h3⟩⟩
    refine ⟨_, rfl, wl, rfl, ⟨_, SqL.of (s1 _ _ hwl)⟩, for_list (K := K) (a := wl) (xs := ys) (fun i σ H' => ∃ v2, σ = [some (.ref p), some (.ref wl), v2, none, none, none, none] ∧ Same H H' ∧ ∀ (m : Nat) W, m < i → Ws[m]? = some W → wrongOf rs TT W = -1) ⟨_, rfl, s1, fun m s h => by omega⟩ (fun _ _ _ _ ⟨_, _, e, _⟩ => SqL.of (e _ _ hwl)) ?_ ?_⟩
    · rintro i x σ H2 hx ⟨v2, rfl, e2, hok⟩
      obtain ⟨W, hW, a, rfl, hWt⟩ := paired_get hP hx
      obtain ⟨w1, w2⟩ := hWs W (List.mem_of_getElem? hW)
      refine gnE ?_
      refine ⟨_, rfl, _, rfl, TT, p, a, rs, W, rfl, hA.same e2, hWt.same e2, hT, w1, hrl, hg, w2, fun ho H3 s3 => ⟨_, rfl, e2.trans s3, fun m W' hm hW' => ?_⟩, fun ho => (kw c1 hone i W hW ho fun m W' hm hW' => hok m W' hm hW').mono e2⟩
      by_cases e : m = i
      · rw [e, hW] at hW'
        cases hW'
        exact ho
      · exact hok m W' (by omega) hW'
    · rintro σ H2 ⟨v2, rfl, e2, hok⟩
      have hall : ∀ W ∈ Ws, wrongOf rs TT W = -1 := fun W hW => by
        obtain ⟨m, hm⟩ := List.getElem?_of_mem hW
        exact hok m W (by rw [hyl]; exact (List.getElem?_eq_some_iff.mp hm).1) hm
      have hA2 := hA.same e2
      refine ⟨_, rfl, TT, p, rs, rfl, hA2, hrl, hT, hg, fun tb H3 htb s3 d3 => ?_⟩
      refine ⟨_, rfl, TT, p, rs, rfl, hA2.same s3, hrl, hT, hg, fun _ q zs H4 hq s4 g4 hK4 => ?_, fun n hb => ?_⟩
      rotate_left
      · obtain ⟨r, h1, h2, h3⟩ := hb
        exact absurd (hone r (List.mem_of_getElem? h1)) h3
      have d4 := s4 _ _ d3
      have e4 := e2.trans (s3.trans s4)
      refine ⟨_, rfl, wl, rfl, ⟨_, SqL.of (e4 _ _ hwl)⟩, for_list (K := K) (a := wl) (xs := ys) (fun i σ H' => ∃ v2 v6 lf ls, σ = [some (.ref p), some (.ref wl), v2, some (.ref tb), some (.ref lf), none, v6] ∧ Same H4 H' ∧ H' lf = some (.lst ls) ∧ Paired (PairT H') ls (undL rs TT (Ws.take i))) ⟨_, _, q, zs, rfl, Same.refl _, g4, by
        unfold undL
        have e0 : (keysL (tabR rs) TT).filter (fun c => (Ws.take 0).all fun W => !tgB (tabR rs) (fellBy W) c) = keysL (tabR rs) TT := List.filter_eq_self.mpr fun _ _ => rfl
        rw [e0]
        exact hK4⟩ (fun _ _ _ _ ⟨_, _, _, _, _, e, _⟩ => SqL.of ((e4.trans e) _ _ hwl)) ?_ ?_⟩
      · rintro i x σ H5 hx ⟨v2, v6, lf, ls, rfl, e5, g5, hL5⟩
        obtain ⟨W, hW, a, rfl, hWt⟩ := paired_get hP hx
        have hwW := hall W (List.mem_of_getElem? hW)
        obtain ⟨hWl, hfb⟩ := right_len hwW
        generalize hL : undL rs TT (Ws.take i) = L at hL5
        have hLle : L.length ≤ 600 := by
          rw [← hL]
          unfold undL
          have := List.length_filter_le (fun c => (Ws.take i).all fun W => !tgB (tabR rs) (fellBy W) c) (keysL (tabR rs) TT)
          have := keysL_le (M := tabR rs) hT
          omega
        have hLm : ∀ c ∈ L, ∃ a b : Nat, a < b ∧ b ≤ TT ∧ c = ((a : Int), (b : Int)) := fun c hc => by
          rw [← hL] at hc
          exact keysL_mem (List.mem_filter.mp hc).1
        have hls : ls.length = L.length := Paired.length hL5
        refine gnE ?_
        refine ⟨_, rfl, _, rfl, _, rfl, TT, a, tb, lf, ls, W, tabR rs, L, rfl, hWt.same (e4.trans e5), hWl, hT, e5 _ _ d4, g5, hL5, hLle, hLm, fun t ts H6 ht s6 g6 hT6 => ⟨t, rfl, ⟨_, SqL.of g6⟩, fun D hD => dc1_set (K := K) (i0 := 5) (by show 5 < 7; decide) hD g6 hT6 ?_ fun H7 s7 hS7 => ?_⟩⟩
        · rw [Paired.length hT6]
          have := List.length_filter_le (tgB (tabR rs) (fellBy W)) L
          omega
        have s57 := s6.trans s7
        have g7 := s57 _ _ g5
        have hL7 := Paired.mapP hL5 fun _ _ z => z.same s57
        refine ⟨_, rfl, lf, rfl, ⟨_, SqL.of g7⟩, fun N2 hN2 => lc_acc (K := K) (a := lf) (xs := ls) hN2 (SqL.of g7) (by omega) (fun j acc H' => Paired (PairT H') acc ((L.take j).filter fun c => !tgB (tabR rs) (fellBy W) c)) (fun _ _ => .nil) ?_ ?_⟩
        · rintro j y acc H8 N N0 hy s8 hacc hI hN hN0
          obtain ⟨c, hc, hr⟩ := paired_get hL7 hy
          have hr := hr.same s8
          have hS8 := hS7.same s8
          have hcL := List.mem_of_getElem? hc
          have ep : decide (c ∈ L.filter (tgB (tabR rs) (fellBy W))) = tgB (tabR rs) (fellBy W) c := by
            rw [Bool.eq_iff_iff, decide_eq_true_eq, List.mem_filter]
            exact ⟨fun z => z.2, fun z => ⟨hcL, z⟩⟩
          have hG := hS8.get hr
          rw [ep] at hG
          have st := flt_take2 (p := fun c => !tgB (tabR rs) (fellBy W) c) hc _ rfl
          refine gnE ⟨rfl, ?_⟩
          refine ⟨_, rfl, _, rfl, D, _, rfl, hG, _, rfl, ?_⟩
          cases qb : tgB (tabR rs) (fellBy W) c with
          | true =>
            rw [qb] at st
            have st := st.trans (List.append_nil _)
            refine hN0 _ (Same.refl _) ?_
            rw [st]
            exact hI
          | false =>
            rw [qb] at st
            refine ⟨_, rfl, hN _ _ (Same.refl _) fun H9 b9 _ => ?_⟩
            rw [st]
            exact Paired.snoc (Paired.mapP hI fun _ _ z => z.but hacc b9) (hr.but hacc b9)
        · rintro acc H8 s8 hacc _ hI
          rw [hls, List.take_length] at hI
          rw [← hL, undL_step hW] at hI
          exact ⟨_, _, N2, acc, rfl, e5.trans (s57.trans s8), hacc, hI⟩
      · rintro σ H5 ⟨v2, v6, lf, ls, rfl, e5, g5, hL5⟩
        rw [hyl, List.take_length] at hL5
        have e45 := e4.trans e5
        have hls := Paired.length hL5
        refine ⟨_, rfl, (by show 0 ≤ sizeLine; decide), fun e he => ?_⟩
        obtain ⟨s6, g6⟩ := new2 (.lst []) he
        refine ⟨_, _, dp_pairs (s6 _ _ g5) (Paired.mapP hL5 fun _ _ z => z.same s6), .lst (SqL.of g6) .nil, shaped_pairs _, shaped_pairs [], _, rfl, ?_⟩
        rw [eqv_nil]
        obtain ⟨k1, k2⟩ := k c1 hone hall _ (e45.trans s6)
        cases hU : undL rs TT Ws with
        | nil =>
          rw [decide_eq_true rfl]
          exact k1 hU
        | cons c r =>
          rw [decide_eq_false (fun z => by cases z)]
          rw [hU] at hL5
          cases hL5 with
          | cons hx ht =>
            rename_i x t
            exact ⟨_, rfl, lf, _, _, x, rfl, rfl, SqL.of (s6 _ _ g5), at_of (j := 0) rfl rfl, k2 x c r hU (hx.same s6)⟩
end
end K27
end
section
set_option maxRecDepth 100000
set_option maxHeartbeats 4000000
namespace K27
open PySem PySem.Spec PyProof.Rows L2
abbrev cG (K : PySem.W.Frag) : Addr := He.ga K "Garden"
/-! ### a garden -/
abbrev gf (d : Int) (l : Addr) : List (Str × V) := [("days_number", V.int d), ("seed_list", V.ref l)]
theorem gf_days (d : Int) (l : Addr) : (gf d l).lookup ("days_number" : Str) = some (.int d) := by simp [List.lookup]
theorem gf_seeds (d : Int) (l : Addr) : (gf d l).lookup ("seed_list" : Str) = some (.ref l) := by
  have e : (("seed_list" : Str) == ("days_number" : Str)) = false := by decide +kernel
  simp [List.lookup, e]
def GardenAt (K : PySem.W.Frag) (H : Hp) (p : Addr) (d : Int) (ws : List (Int × Int)) : Prop := ∃ dx l xs, H p = some (.ins (cG K) dx (gf d l)) ∧ H l = some (.lst xs) ∧ Paired (PairT H) xs ws
theorem GardenAt.same {K : PySem.W.Frag} {H H' : Hp} {p : Addr} {d : Int} {ws : List (Int × Int)} (e : Same H H') (h : GardenAt K H p d ws) : GardenAt K H' p d ws := by
  obtain ⟨dx, l, xs, h1, h2, h3⟩ := h
  exact ⟨dx, l, xs, e _ _ h1, e _ _ h2, Paired.mapP h3 fun _ _ z => z.same e⟩
/-- a garden whose row of seeds was made after H0 -/
def GardenN (K : PySem.W.Frag) (H0 H : Hp) (p : Addr) (d : Int) (ws : List (Int × Int)) : Prop := ∃ dx l xs, H0 l = none ∧ H p = some (.ins (cG K) dx (gf d l)) ∧ H l = some (.lst xs) ∧ Paired (PairT H) xs ws
theorem GardenN.at {K : PySem.W.Frag} {H0 H : Hp} {p : Addr} {d : Int} {ws : List (Int × Int)} (h : GardenN K H0 H p d ws) : GardenAt K H p d ws := by
  obtain ⟨dx, l, xs, _, h⟩ := h
  exact ⟨dx, l, xs, h⟩
theorem GardenN.same {K : PySem.W.Frag} {H0 H H' : Hp} {p : Addr} {d : Int} {ws : List (Int × Int)} (e : Same H H') (h : GardenN K H0 H p d ws) : GardenN K H0 H' p d ws := by
  obtain ⟨dx, l, xs, h0, h1, h2, h3⟩ := h
  exact ⟨dx, l, xs, h0, e _ _ h1, e _ _ h2, Paired.mapP h3 fun _ _ z => z.same e⟩
theorem GardenN.dn {K : PySem.W.Frag} {H0 H1 H : Hp} {p : Addr} {d : Int} {ws : List (Int × Int)} (e : Same H0 H1) (h : GardenN K H1 H p d ws) : GardenN K H0 H p d ws := by
  obtain ⟨dx, l, xs, h0, h⟩ := h
  exact ⟨dx, l, xs, none_of e h0, h⟩
/-- wrong windows: the first row from k on -/
def badW (T : Int) (c : Int × Int) : Bool := decide (c.1 < 1) || (decide (c.2 < c.1) || decide (T < c.2))
def fbadW (T : Int) : Int → List (Int × Int) → Int
  | _, [] => 0
  | k, c :: r => if badW T c = true then k else fbadW T (k + 1) r
theorem paired_snoc {α β : Type} {R : α → β → Prop} {xs : List α} {ys : List β} {x : α} {y : β} (h : Paired R xs ys) (r : R x y) : Paired R (xs ++ [x]) (ys ++ [y]) := Paired.snoc h r
section
variable {P : Program} {w : World} {K : PySem.W.Frag} {mg : Str → Option Value} {base : Heap}
/-- a new list of the windows -/
def spGRows (K : PySem.W.Frag) : Sp := fun vs H Q _ => ∃ p d ws, vs = [.ref p] ∧ GardenAt K H p d ws ∧ ∀ l xs H', H l = none → Same H H' → H' l = some (.lst xs) → Paired (PairT H') xs ws → Q (.ref l) H'
theorem okm_Garden_rows (T : Txt w K mg) : OkM P w K mg base CX0 1 (cG K) "rows" ["self"] (spGRows K) := by
  refine OkM.def0 (fm_Garden_rows T) (me_Garden_rows T) (fun _ _ _ _ _ _ us hl => match us, hl with | [_], _ => rfl) sc_Garden_rows (fun vs H Q E h => ?_) (fun cdv A outer s H vs Q E hr h => ?_)
  · obtain ⟨p, d, ws, rfl, _⟩ := h
    rfl
  · obtain ⟨p, d, ws, rfl, ⟨dx, l, xs, h1, h2, h3⟩, k⟩ := h
    refine ⟨_, (pss_one (ps_ret (pe_callTy (list_ofK (K := K) rfl) rfl (n_list T) (by decide +kernel) (pa_cons (pe_fld (pv 0) rfl) pa_nil)))), ?_⟩
    refine ⟨_, rfl, p, _, dx, _, _, rfl, h1, cl_Garden T, na_Garden_seed_list T, gf_seeds d l, l, xs, rfl, .inl (SqL.of h2), fun m hm => ?_⟩
    obtain ⟨s1, g1⟩ := new2 (.lst xs) hm
    exact k m xs _ hm s1 g1 (Paired.mapP h3 fun _ _ z => z.same s1)
def spGInit (K : PySem.W.Frag) : Sp := fun vs H Q E => ∃ p dx d s ys ws, vs = [.ref p, .int d, .ref s] ∧ H p = some (.ins (cG K) dx []) ∧ H s = some (.lst ys) ∧ Paired (PairT H) ys ws ∧ ys.length ≤ 1000 ∧
  (24 < d → Rz E H (cTM K) "what" (.str "days")) ∧ (d ≤ 24 → 120 < ws.length → Rz E H (cTM K) "what" (.str "seeds")) ∧ (d < 1 → ws.length ≤ 120 → Rz E H (cBG K) "row" (.int 0)) ∧
  (1 ≤ d → d ≤ 24 → ws.length ≤ 120 → fbadW d 1 ws ≠ 0 → Rz E H (cBG K) "row" (.int (fbadW d 1 ws))) ∧
  (1 ≤ d → d ≤ 24 → ws.length ≤ 120 → fbadW d 1 ws = 0 → ∀ H', But p H H' → GardenN K H H' p d ws → Q .non H')
theorem okk_Garden (T : Txt w K mg) : OkK P w K mg base (L2.CX P w) 5 "Garden" (cG K) ["self", "days", "seeds"] (spGInit K) := by
  refine OkK.defX (fm_Garden___init__ T) (mk_Garden T) (g_Garden T) (fun _ _ _ _ _ _ us hl => match us, hl with | [_, _, _], _ => rfl) sc_Garden___init__ (fun vs H Q E h => ?_) (fun cdv A outer s H vs Q E hr h tk => ?_)
  · obtain ⟨p, dx, d, s, ys, ws, rfl, _⟩ := h
    rfl
  · obtain ⟨p, dx, d, sd, ys, ws, rfl, hp, hS, hP, hl, e1, e2, e3, e4, k⟩ := h
    refine ⟨_, (pss_cons (ps_expr (pe_okS (ok_check T) (hr.mono (by first | decide | omega)) rfl (fun σ => passAt tk σ) (pa_cons pe_str (pa_cons (pv 1) pa_nil))))
      (pss_cons (ps_expr (pe_okS (ok_check T) (hr.mono (by first | decide | omega)) rfl (fun σ => passAt tk σ) (pa_cons pe_str (pa_cons (pe_callB (len_seqK (K := K) rfl) rfl (n_len T) (by decide +kernel) (pa_cons (pv 2) pa_nil)) pa_nil))))
      (pss_cons (ps_if (pt_cmpR op_lt (pv 1) pe_int (nomark _)) (pss_one (ps_raise rfl tk (pmk_x (x_BadGarden T) (hr.mono (by first | decide | omega)) rfl (pa_cons pe_int pa_nil)))) pss_nil)
      (pss_cons (ps_for (passes_of rfl) rfl (pi_range1 rfl (n_range T) (pa_cons (pe_callB (len_seqK (K := K) rfl) rfl (n_len T) (by decide +kernel) (pa_cons (pv 2) pa_nil)) pa_nil)) (pg_name (i := 3) sc_Garden___init__.nd rfl (by first | exact Or.inl rfl | exact Or.inr rfl))
        (pss_one (ps_if (PW.pt (pw_or (pt_cmpR op_lt (pe_ix (ix_seqK (K := K) rfl) (pe_ix (ix_listK (K := K) rfl) (pv 2) (pv 3) (fun _ _ => rfl)) pe_int (fun _ _ => rfl)) pe_int (nomark _)) (pw_or (pt_cmpR op_lt (pe_ix (ix_seqK (K := K) rfl) (pe_ix (ix_listK (K := K) rfl) (pv 2) (pv 3) (fun _ _ => rfl)) pe_int (fun _ _ => rfl)) (pe_ix (ix_seqK (K := K) rfl) (pe_ix (ix_listK (K := K) rfl) (pv 2) (pv 3) (fun _ _ => rfl)) pe_int (fun _ _ => rfl)) (nomark _)) (pw_or1 (pt_cmpR op_gt (pe_ix (ix_seqK (K := K) rfl) (pe_ix (ix_listK (K := K) rfl) (pv 2) (pv 3) (fun _ _ => rfl)) pe_int (fun _ _ => rfl)) (pv 1) (nomark _)))))) (pss_one (ps_raise rfl tk (pmk_x (x_BadGarden T) (hr.mono (by first | decide | omega)) rfl (pa_cons (pe_op op_add (pv 3) pe_int) pa_nil)))) pss_nil)))
      (pss_cons (ps_fld (pv 0) (pv 1) rfl)
      (pss_one (ps_fld (pv 0) (pe_lc (own := [("first", 4), ("last", 5)]) rfl sc_Garden___init__.nd (pi_listK (K := K) rfl (pv 2)) (blkOk_by (N := ["self", "days", "seeds", "at", "first", "last"]) (sc := defScope s_Garden___init__) (by decide +kernel)) (fun _ _ _ _ _ => (pg_tupK (K := K) (n := 2) rfl rfl (pgs_cons (pg_name (i := 4) sc_Garden___init__.nd rfl (by first | exact Or.inl rfl | exact Or.inr rfl)) (pgs_cons (pg_name (i := 5) sc_Garden___init__.nd rfl (by first | exact Or.inl rfl | exact Or.inr rfl)) pgs_nil)))) (fun _ _ _ _ _ => pts_nil) (fun _ _ _ _ _ => (pe_tup (pa_cons (pv 4) (pa_cons (pv 5) pa_nil))))) rfl))))))), ?_⟩
    refine ⟨_, rfl, "days", d, 24, rfl, lim_days, fun c1 => ?_, fun c1 => e1 c1⟩
    refine ⟨_, rfl, _, _, rfl, .inl (SqL.of hS), "seeds", _, 120, rfl, lim_seeds, fun c2 => ?_, fun c2 => e2 c1 (by rw [Paired.length hP] at c2; omega)⟩
    have hlw : ys.length = ws.length := Paired.length hP
    have c2 : ws.length ≤ 120 := by omega
    refine ⟨_, rfl, _, _, rfl, rfl, _, rfl, ?_⟩
    refine ite2 (fun c3 => ?_) (fun c3 => ?_)
    · exact mko ((e3 (of_decide_eq_true c3) c2).at (Same.refl H))
    have c3 : 1 ≤ d := Int.not_lt.mp fun z => c3 (decide_eq_true z)
    have e4 := e4 c3 c1 c2
    have k := k c3 c1 c2
    refine ⟨_, rfl, _, _, rfl, .inl (SqL.of hS), _, rfl, by omega, by omega,
      for_upto (lo := 0) (L := ws.length) (by omega) (fun i σ H' => ∃ v3, σ = [some (.ref p), some (.int d), some (.ref sd), v3, none, none] ∧ H' = H ∧ fbadW d 1 ws = fbadW d (1 + (i : Nat)) (ws.drop i)) ⟨_, rfl, rfl, rfl⟩ ?_ ?_⟩
    · rintro i σ H' hi ⟨v3, rfl, rfl, hu⟩
      obtain ⟨c, hc⟩ : ∃ c, ws[i]? = some c := ⟨ws[i], List.getElem?_eq_getElem hi⟩
      obtain ⟨x, hx⟩ : ∃ x, ys[i]? = some x := ⟨ys[i]'(by omega), List.getElem?_eq_getElem _⟩
      obtain ⟨c', hc', hr⟩ := paired_get hP hx
      rw [hc] at hc'
      cases hc'
      rw [drop_get hc] at hu
      have step : fbadW d (1 + (i : Nat)) (c :: ws.drop (i + 1)) = if badW d c = true then (1 + ((i : Nat) : Int)) else fbadW d (1 + (i : Nat) + 1) (ws.drop (i + 1)) := rfl
      have next : (1 + ((i + 1 : Nat) : Int)) = 1 + (i : Nat) + 1 := by omega
      have e2' : (0 + (i : Int)) + 1 = 1 + (i : Int) := by omega
      have bad : badW d c = true → Rz E H' (cBG K) "row" (.int ((0 + (i : Int)) + 1)) := fun q => by
        rw [step, if_pos q] at hu
        rw [hu] at e4
        rw [e2']
        exact e4 (by omega)
      have good : badW d c = false → fbadW d 1 ws = fbadW d (1 + ((i + 1 : Nat) : Int)) (ws.drop (i + 1)) := fun q => by
        rw [step, if_neg (fun z => by rw [q] at z; cases z)] at hu
        rw [hu, next]
      have raise : badW d c = true → ∀ t, H' t = none → E (.ref (cBG K)) (some t) (upd H' t (.xd [(("row" : Str), V.int ((0 + (i : Int)) + 1))])) := fun q => (bad q).at (Same.refl _)
      refine ⟨_, rfl, _, rfl, sd, _, _, _, rfl, rfl, SqL.of hS, at_of (by omega) hx, hr.i0 ⟨_, _, rfl, rfl, _, rfl, ?_⟩⟩
      cases q1 : decide (c.1 < 1) with
      | true => exact ⟨_, rfl, _, _, rfl, rfl, mko (raise (by simp [badW, q1]))⟩
      | false =>
        refine ⟨_, rfl, _, rfl, sd, _, _, _, rfl, rfl, SqL.of hS, at_of (by omega) hx, hr.i1 ⟨_, rfl, _, rfl, sd, _, _, _, rfl, rfl, SqL.of hS, at_of (by omega) hx, hr.i0 ⟨_, _, rfl, rfl, _, rfl, ?_⟩⟩⟩
        cases q2 : decide (c.2 < c.1) with
        | true => exact ⟨_, rfl, _, _, rfl, rfl, mko (raise (by simp [badW, q2]))⟩
        | false =>
          refine ⟨_, rfl, _, rfl, sd, _, _, _, rfl, rfl, SqL.of hS, at_of (by omega) hx, hr.i1 ⟨_, rfl, _, _, rfl, rfl, _, rfl, ?_⟩⟩
          cases q3 : decide (d < c.2) with
          | true => exact ⟨_, rfl, _, _, rfl, rfl, mko (raise (by simp [badW, q3]))⟩
          | false => exact ⟨_, rfl, rfl, good (by simp [badW, q1, q2, q3])⟩
    · rintro σ H' ⟨v3, rfl, rfl, hu⟩
      rw [List.drop_length] at hu
      have k := k hu
      clear e1 e2 e3 e4 hu
      have nps : sd ≠ p := fun z => by rw [z, hp] at hS; cases hS
      refine ⟨_, rfl, _, rfl, p, _, dx, [], rfl, hp, cl_Garden T, na_Garden_days_number T, (by show 0 < 1000; decide), ?_⟩
      have b1 : But p H' (upd H' p (.ins (cG K) dx (putF "days_number" (.int d) []))) := (But.refl p H').upd
      have p1 : upd H' p (.ins (cG K) dx (putF "days_number" (.int d) [])) p = some (.ins (cG K) dx (putF "days_number" (.int d) [])) := upd_same
      generalize upd H' p (.ins (cG K) dx (putF "days_number" (.int d) [])) = H1 at b1 p1 ⊢
      have hS1 := b1 _ _ hS nps
      have hP1 : Paired (PairT H1) ys ws := Paired.mapP hP fun _ _ z => by
        obtain ⟨t, rfl, h⟩ := z
        exact ⟨t, rfl, b1 _ _ h fun z => by rw [z, hp] at h; cases h⟩
      refine ⟨_, rfl, sd, rfl, ⟨_, SqL.of hS1⟩, fun D hD => lc_acc (K := K) (a := sd) (xs := ys) hD (SqL.of hS1) (by omega) (fun j acc H2 => Paired (PairT H2) acc (ws.take j)) (fun _ _ => .nil) ?_ ?_⟩
      · rintro j x acc H2 N N0 hx s2 hacc hI hN hN0
        obtain ⟨c, hc, hr⟩ := paired_get hP1 hx
        refine (hr.same s2).un rfl ⟨rfl, ?_⟩
        refine ⟨_, rfl, _, rfl, (by show 2 ≤ sizeLine; decide), fun t ht => ?_⟩
        obtain ⟨s3, g3⟩ := new2 (.tup [V.int c.1, V.int c.2]) ht
        have tD : t ≠ D := fun z => by rw [z, hacc] at ht; cases ht
        refine hN _ _ s3 fun H5 b5 _ => ?_
        rw [take_get hc]
        refine paired_snoc (Paired.mapP hI fun _ _ z => ?_) ⟨t, rfl, b5 _ _ g3 tD⟩
        obtain ⟨u, rfl, h⟩ := z.same s3
        exact ⟨u, rfl, b5 _ _ h fun z => by rw [z, s3 _ _ hacc] at h; cases h⟩
      · rintro acc H2 s2 hacc hal hI
        rw [Paired.length hP1, List.take_length] at hI
        have p2 := s2 _ _ p1
        refine ⟨_, rfl, p, _, dx, _, rfl, p2, cl_Garden T, na_Garden_seed_list T, (by show 1 < 1000; decide), ?_⟩
        have pD : D ≠ p := fun z => by rw [z, p1] at hD; cases hD
        have hD0 : H' D = none := by
          cases q : H' D with
          | none => rfl
          | some o => rw [b1 _ _ q pD] at hD; cases hD
        have b2 : But p H' (upd H2 p (.ins (cG K) dx (putF "seed_list" (.ref D) (putF "days_number" (.int d) [])))) := (b1.trans (But.of s2)).upd
        refine k _ b2 ⟨dx, D, acc, hD0, ?_, by rw [upd_ne pD]; exact hacc, Paired.mapP hI fun _ _ z => ?_⟩
        · rw [upd_same]
          have e : ¬ (("days_number" : Str) = "seed_list") := by decide +kernel
          show some (HO.ins (cG K) dx (if ("days_number" : Str) = "seed_list" then _ else _)) = _
          rw [if_neg e]
          rfl
        · obtain ⟨u, rfl, h⟩ := z
          exact ⟨u, rfl, by rw [upd_ne fun z => by rw [z, p2] at h; cases h]; exact h⟩
def spSlip (K : PySem.W.Frag) : Sp := fun vs H Q E => ∃ (T : Nat) (p : Addr) (x : V) (rs : List Q4) (s : Int × Int), vs = [.ref p, x] ∧ AlmAt K H p T rs ∧ PairT H x s ∧ 1 ≤ T ∧ T ≤ 24 ∧ rs.length ≤ 40 ∧ (∀ r ∈ rs, GoodR r) ∧
  (∀ n, BadCan rs n → Rz E H (cSk K) "row" (.int ((n : Int) + 1))) ∧ (OneCan rs → ¬ StrOk T s → Rz2 E H (cBT K) "first" "last" (.int s.1) (.int s.2)) ∧
  (OneCan rs → ∀ a b : Nat, s = ((a : Int), (b : Int)) → a < b → b ≤ T → ∀ n : Nat, tabR rs a b = (n : Int) → n ≤ 40 → ∀ g H', Same H H' → GardenAt K H' g T (List.replicate (n + 1) ((a : Int) + 1, (b : Int))) → Q (.ref g) H')
theorem fbad_rep {T : Int} {c : Int × Int} (h : badW T c = false) : ∀ (n : Nat) (k : Int), fbadW T k (List.replicate n c) = 0
  | 0, _ => rfl
  | n + 1, k => by
    rw [List.replicate_succ]
    unfold fbadW
    rw [if_neg (by rw [h]; exact fun z => by cases z)]
    exact fbad_rep h n (k + 1)
theorem ok_slipping_garden (T : Txt w K mg) : Ok P w K mg base (L2.CX P w) 8 "slipping_garden" ["almanac", "stretch"] (spSlip K) := by
  refine Ok.defX (f_slipping_garden T) (fun _ _ _ _ _ _ us hl => match us, hl with | [_, _], _ => rfl) sc_slipping_garden (fun vs H Q E h => ?_) (fun f cdv A outer s H vs Q E hr h tk => ?_)
  · obtain ⟨TT, p, x, rs, s, rfl, _⟩ := h
    rfl
  · obtain ⟨TT, p, x, rs, s, rfl, hA, hx, hT1, hT, hrl, hg, ks, kb, k⟩ := h
    refine ⟨_, (pss_cons (ps_expr (pe_okS (ok_check_one_can T) (hr.mono (by first | decide | omega)) rfl (fun σ => passAt tk σ) (pa_cons (pv 0) pa_nil)))
      (pss_cons (ps_expr (pe_okS (ok_check_stretch T) (hr.mono (by first | decide | omega)) rfl (fun σ => passAt tk σ) (pa_cons (pv 1) (pa_cons (pe_okM0 (okm_Almanac_days T) (cl_Almanac T) (pv 0) (hr.mono (by first | decide | omega)) pass0) pa_nil))))
      (pss_cons (ps_asg (pv 1) (pg_tupK (K := K) (n := 2) rfl rfl (pgs_cons (pg_name (i := 2) sc_slipping_garden.nd rfl (by first | exact Or.inl rfl | exact Or.inr rfl)) (pgs_cons (pg_name (i := 3) sc_slipping_garden.nd rfl (by first | exact Or.inl rfl | exact Or.inr rfl)) pgs_nil))))
      (pss_cons (ps_set (i := 4) sc_slipping_garden.nd rfl (by first | exact Or.inl rfl | exact Or.inr rfl) (pe_op op_add (pe_dget (du hr.units) (pe_ok (ok_span_counts T) (hr.mono (by first | decide | omega)) rfl pass0 (pa_cons (pv 0) pa_nil)) (pe_tup (pa_cons (pv 2) (pa_cons (pv 3) pa_nil))) (fun _ _ => rfl)) pe_int))
      (pss_one (ps_ret (pe_okK (okk_Garden T) (hr.mono (by first | decide | omega)) rfl (passes_call tk (fun _ _ _ _ h => h)) (pa_cons (pe_okM0 (okm_Almanac_days T) (cl_Almanac T) (pv 0) (hr.mono (by first | decide | omega)) pass0) (pa_cons (pe_op op_rep (pe_lst (pa_cons (pe_tup (pa_cons (pe_op op_add (pv 2) pe_int) (pa_cons (pv 3) pa_nil))) pa_nil)) (pv 4)) pa_nil))))))))), ?_⟩
    refine ⟨_, rfl, p, TT, rs, rfl, hA, hrl, fun hone H1 s1 => ?_, fun n r h1 h2 h3 => ks n ⟨r, h1, h2, h3⟩⟩
    have hA1 := hA.same s1
    have hx1 := hx.same s1
    obtain ⟨dx, l0, xs0, i1, i2, i3⟩ := id hA1
    refine ⟨_, rfl, _, rfl, p, dx, _, rfl, i1, af_no (by decide +kernel) (by decide +kernel), p, TT, rs, rfl, hA1, ?_⟩
    refine ⟨x, s, TT, rfl, hx1, fun ho H2 s2 => ?_, fun ho => (kb hone ho).mono s1⟩
    have hx2 := hx1.same s2
    have hA2 := hA1.same s2
    obtain ⟨a, b, rfl, hab, hb⟩ : ∃ a b : Nat, s = ((a : Int), (b : Int)) ∧ a < b ∧ b ≤ TT := by
      unfold StrOk at ho
      refine ⟨s.1.toNat, s.2.toNat, Prod.ext ?_ ?_, ?_, ?_⟩
      · show s.1 = _
        omega
      · show s.2 = _
        omega
      · omega
      · omega
    obtain ⟨n, hn, hn40⟩ : ∃ n : Nat, tabR rs a b = (n : Int) ∧ n ≤ 40 := by
      refine ⟨_, rfl, ?_⟩
      exact Nat.le_trans cN_le hrl
    refine ⟨_, rfl, hx2.un rfl ?_⟩
    refine ⟨_, rfl, TT, p, rs, rfl, hA2, hrl, hT, hg, fun tb H3 htb s3 d3 => ⟨_, rfl, _, rfl, (by show 2 ≤ sizeLine; decide), fun t ht => ?_⟩⟩
    obtain ⟨s4, g4⟩ := new2 (.tup [.int (a : Int), .int (b : Int)]) ht
    have e4 := DGet.t (k := key2 a b) (s4 _ _ d3) (by rw [g4]; rfl)
    rw [tabM_val (by omega) hb, hn] at e4
    refine ⟨tb, _, rfl, e4, _, _, rfl, rfl, ?_⟩
    have e24 := s3.trans s4
    have hA4 := hA2.same e24
    obtain ⟨dx, l0, xs0, i1, i2, i3⟩ := id hA4
    refine ⟨_, rfl, p, dx, _, rfl, i1, af_no (by decide +kernel) (by decide +kernel), p, TT, rs, rfl, hA4, ?_⟩
    refine ⟨_, rfl, _, _, rfl, rfl, _, rfl, (by show 2 ≤ sizeLine; decide), fun u hu => ⟨(by show 1 ≤ sizeLine; decide), fun m hm => ?_⟩⟩
    obtain ⟨s5, g5⟩ := new2 (.tup [.int ((a : Int) + 1), .int (b : Int)]) hu
    obtain ⟨s6, g6⟩ := new2 (.lst [V.ref u]) hm
    refine ⟨_, rfl, m, _, _, rfl, rfl, g6, by omega, by omega, ?_, fun v hv => ?_⟩
    · show 1 * ((n : Int) + 1).toNat ≤ sizeLine
      exact line_of (by omega)
    have en : ((n : Int) + 1).toNat = n + 1 := by omega
    obtain ⟨s7, g7⟩ := new2 (.lst (List.replicate ((n : Int) + 1).toNat [V.ref u]).flatten) hv
    have g7 := g7.trans (by rw [en])
    have s57 := s5.trans (s6.trans s7)
    have hPg := paired_rep (show PairT _ (V.ref u) ((a : Int) + 1, (b : Int)) from ⟨u, rfl, s7 _ _ (s6 _ _ g5)⟩) (n + 1)
    have hrl2 : (List.replicate (n + 1) ((a : Int) + 1, (b : Int))).length = n + 1 := List.length_replicate
    have eAll := s1.trans (s2.trans (e24.trans s57))
    intro g dg hgn hdg hne
    have s8 := same_mut (o := .ins (cG K) dg []) (same_new (o := .own g) hdg) hgn
    refine ⟨g, dg, TT, v, _, _, rfl, upd_same, s8 _ _ g7, Paired.mapP hPg fun _ _ z => z.same s8, ?_, fun z => absurd hT (by omega), fun _ z => by rw [hrl2] at z; omega, fun z => by omega, fun _ _ _ z => ?_, fun _ _ _ _ H9 b9 hN => ⟨rfl, ?_⟩⟩
    · rw [Paired.length hPg, hrl2]
      omega
    · refine absurd (fbad_rep ?_ (n + 1) 1) z
      unfold badW
      simp
      omega
    · exact k hone a b rfl hab hb n hn hn40 g H9 (eAll.trans fun c o hc => b9 c o (s8 c o hc) (ne_of_none hc hgn)) hN.at
end
end K27
end
section
set_option maxRecDepth 100000
set_option maxHeartbeats 4000000
namespace K27
open PySem PySem.Spec PyProof.Rows L2
theorem app1 {H H1 : Hp} {a t : Addr} {xs : List V} (s : Same H H1) (ha : H a = none) (hF : H1 a = some (.lst [])) (hT : H1 t = some (.tup xs)) : ∃ H2, H2 = upd H1 a (.lst ([] ++ [V.ref t])) ∧ Same H H2 ∧ H2 t = some (.tup xs) ∧ H2 a = some (.lst [V.ref t]) :=
  ⟨_, rfl, same_mut s ha, by rw [upd_ne fun z => by rw [z, hF] at hT; cases hT]; exact hT, upd_same⟩
section
variable {P : Program} {w : World} {K : PySem.W.Frag} {mg : Str → Option Value} {base : Heap}
theorem body_TooMany (T : Txt w K mg) {A : Around} {outer : List Env} {s : Shared} {H : Hp} {Q : VK} {p : Addr × Obj} {d : Addr} {v0 : V} {f : Addr} {cdv : Value} (hz : Zc (.ref (cTM K)) (some d) p.2) (hf : ∃ vs, p.2.data = .fields vs)
    (hd : H d = some (.xd [("what", v0)])) (q : ∀ r l t H', Same H H' → H' t = some (.tup [.str "TooMany", v0]) → H' l = some (.lst [.ref t]) → H' r = some (.tup [.str "raised", .ref l]) → H r = none → Q (.ref r) H') :
    ∃ t, PSs (L2H.cxH CX0 P w K mg base ["raised", "found"] "_law_caught" (defScope s__law_caught) f cdv A outer s H E0 p) (defBody s__law_caught) t ∧ t { nx := fun _ H' => Q .non H', rt := Q } (L2.start ["raised", "found"] [.ref p.1]) H := by
  refine ⟨_, (pss_cons (ps_set (i := 1) sc__law_caught.nd rfl (by first | exact Or.inl rfl | exact Or.inr rfl) (pe_lst pa_nil))
      (pss_cons (ps_if (pt_val (pe_callB (call_isD (p := p) (D := cTM K) (d := d) List.mem_cons_self (xt_TooMany T).exc hz hf) rfl (n_isinstance T) (by decide +kernel) (pa_cons (pv 0) (pa_cons (pe_glob (v := .ref _) rfl (g_TooMany T) rfl) pa_nil)))) (pss_one (ps_expr (pe_bm PySem.F.plainAttrs_list PySem.F.slot_list_append PySem.F.type_list_append mt_append (pv 1) (pa_cons (pe_tup (pa_cons pe_str (pa_cons (pe_xfG (p := p) (C := cTM K) List.mem_cons_self (xt_TooMany T).xf (xn_TooMany_what T) hz hf (pv 0)) pa_nil))) pa_nil)))) pss_nil)
      (pss_cons (ps_if (pt_val (pe_callB (call_isD (p := p) (D := cTM K) (d := d) List.mem_cons_self (xt_TooMany T).exc hz hf) rfl (n_isinstance T) (by decide +kernel) (pa_cons (pv 0) (pa_cons (pe_glob (v := .ref _) rfl (g_BadSky T) rfl) pa_nil)))) (pss_one (ps_expr (pe_bm PySem.F.plainAttrs_list PySem.F.slot_list_append PySem.F.type_list_append mt_append (pv 1) (pa_cons (pe_tup (pa_cons pe_str (pa_cons pe_noway pa_nil))) pa_nil)))) pss_nil)
      (pss_cons (ps_if (pt_val (pe_callB (call_isD (p := p) (D := cTM K) (d := d) List.mem_cons_self (xt_TooMany T).exc hz hf) rfl (n_isinstance T) (by decide +kernel) (pa_cons (pv 0) (pa_cons (pe_glob (v := .ref _) rfl (g_BadWeather T) rfl) pa_nil)))) (pss_one (ps_expr (pe_bm PySem.F.plainAttrs_list PySem.F.slot_list_append PySem.F.type_list_append mt_append (pv 1) (pa_cons (pe_tup (pa_cons pe_str (pa_cons pe_noway pa_nil))) pa_nil)))) pss_nil)
      (pss_cons (ps_if (pt_val (pe_callB (call_isD (p := p) (D := cTM K) (d := d) List.mem_cons_self (xt_TooMany T).exc hz hf) rfl (n_isinstance T) (by decide +kernel) (pa_cons (pv 0) (pa_cons (pe_glob (v := .ref _) rfl (g_BadTable T) rfl) pa_nil)))) (pss_one (ps_expr (pe_bm PySem.F.plainAttrs_list PySem.F.slot_list_append PySem.F.type_list_append mt_append (pv 1) (pa_cons (pe_tup (pa_cons pe_str (pa_cons pe_noway (pa_cons pe_noway pa_nil)))) pa_nil)))) pss_nil)
      (pss_cons (ps_if (pt_val (pe_callB (call_isD (p := p) (D := cTM K) (d := d) List.mem_cons_self (xt_TooMany T).exc hz hf) rfl (n_isinstance T) (by decide +kernel) (pa_cons (pv 0) (pa_cons (pe_glob (v := .ref _) rfl (g_BadSetting T) rfl) pa_nil)))) (pss_one (ps_expr (pe_bm PySem.F.plainAttrs_list PySem.F.slot_list_append PySem.F.type_list_append mt_append (pv 1) (pa_cons (pe_tup (pa_cons pe_str (pa_cons (pe_xfG (p := p) (C := cTM K) List.mem_cons_self (xt_TooMany T).xf (xn_TooMany_what T) hz hf (pv 0)) pa_nil))) pa_nil)))) pss_nil)
      (pss_one (ps_ret (pe_tup (pa_cons pe_str (pa_cons (pv 1) pa_nil))))))))))), ?_⟩
  refine ⟨(by show 0 ≤ sizeLine; decide), fun a ha => ?_⟩
  obtain ⟨h0, hF⟩ := new2 (.lst []) ha
  refine ⟨_, rfl, _, _, true, _, rfl, (fun u e => e), h0 _ _ hd, xk_TooMany_TooMany T, _, rfl, iteT ?_⟩
  refine ⟨_, rfl, .inl ⟨rfl, _, SqL.of hF⟩, _, rfl, rfl, rfl, d, _, v0, rfl, h0 _ _ hd, rfl, (by show 2 ≤ sizeLine; decide), fun t ht => ?_⟩
  obtain ⟨hA, hT⟩ := new2 (.tup [.str "TooMany", v0]) ht
  have hF := hA _ _ hF
  have h1 := h0.trans hA
  refine ⟨a, [], _, rfl, rfl, hF, (by show 0 < sizeLine; decide), ?_⟩
  obtain ⟨H2, eH, h2, hT, hF⟩ := app1 h1 ha hF hT
  rw [← eH]
  clear hA eH
  refine ⟨_, rfl, _, _, false, _, rfl, (fun u e => e), h2 _ _ hd, xk_TooMany_BadSky T, _, rfl, iteF ?_⟩
  refine ⟨_, rfl, _, _, false, _, rfl, (fun u e => e), h2 _ _ hd, xk_TooMany_BadWeather T, _, rfl, iteF ?_⟩
  refine ⟨_, rfl, _, _, false, _, rfl, (fun u e => e), h2 _ _ hd, xk_TooMany_BadTable T, _, rfl, iteF ?_⟩
  refine ⟨_, rfl, _, _, false, _, rfl, (fun u e => e), h2 _ _ hd, xk_TooMany_BadSetting T, _, rfl, iteF ?_⟩
  refine ⟨_, rfl, (by show 2 ≤ sizeLine; decide), fun r hr_ => ?_⟩
  obtain ⟨hA, hR⟩ := new2 (.tup [.str "raised", .ref a]) hr_
  exact q _ _ _ _ (h2.trans hA) (hA _ _ hT) (hA _ _ hF) hR (none_of h2 hr_)
theorem body_BadSky (T : Txt w K mg) {A : Around} {outer : List Env} {s : Shared} {H : Hp} {Q : VK} {p : Addr × Obj} {d : Addr} {v0 : V} {f : Addr} {cdv : Value} (hz : Zc (.ref (cSk K)) (some d) p.2) (hf : ∃ vs, p.2.data = .fields vs)
    (hd : H d = some (.xd [("row", v0)])) (q : ∀ r l t H', Same H H' → H' t = some (.tup [.str "BadSky", v0]) → H' l = some (.lst [.ref t]) → H' r = some (.tup [.str "raised", .ref l]) → H r = none → Q (.ref r) H') :
    ∃ t, PSs (L2H.cxH CX0 P w K mg base ["raised", "found"] "_law_caught" (defScope s__law_caught) f cdv A outer s H E0 p) (defBody s__law_caught) t ∧ t { nx := fun _ H' => Q .non H', rt := Q } (L2.start ["raised", "found"] [.ref p.1]) H := by
  refine ⟨_, (pss_cons (ps_set (i := 1) sc__law_caught.nd rfl (by first | exact Or.inl rfl | exact Or.inr rfl) (pe_lst pa_nil))
      (pss_cons (ps_if (pt_val (pe_callB (call_isD (p := p) (D := cSk K) (d := d) List.mem_cons_self (xt_BadSky T).exc hz hf) rfl (n_isinstance T) (by decide +kernel) (pa_cons (pv 0) (pa_cons (pe_glob (v := .ref _) rfl (g_TooMany T) rfl) pa_nil)))) (pss_one (ps_expr (pe_bm PySem.F.plainAttrs_list PySem.F.slot_list_append PySem.F.type_list_append mt_append (pv 1) (pa_cons (pe_tup (pa_cons pe_str (pa_cons pe_noway pa_nil))) pa_nil)))) pss_nil)
      (pss_cons (ps_if (pt_val (pe_callB (call_isD (p := p) (D := cSk K) (d := d) List.mem_cons_self (xt_BadSky T).exc hz hf) rfl (n_isinstance T) (by decide +kernel) (pa_cons (pv 0) (pa_cons (pe_glob (v := .ref _) rfl (g_BadSky T) rfl) pa_nil)))) (pss_one (ps_expr (pe_bm PySem.F.plainAttrs_list PySem.F.slot_list_append PySem.F.type_list_append mt_append (pv 1) (pa_cons (pe_tup (pa_cons pe_str (pa_cons (pe_xfG (p := p) (C := cSk K) List.mem_cons_self (xt_BadSky T).xf (xn_BadSky_row T) hz hf (pv 0)) pa_nil))) pa_nil)))) pss_nil)
      (pss_cons (ps_if (pt_val (pe_callB (call_isD (p := p) (D := cSk K) (d := d) List.mem_cons_self (xt_BadSky T).exc hz hf) rfl (n_isinstance T) (by decide +kernel) (pa_cons (pv 0) (pa_cons (pe_glob (v := .ref _) rfl (g_BadWeather T) rfl) pa_nil)))) (pss_one (ps_expr (pe_bm PySem.F.plainAttrs_list PySem.F.slot_list_append PySem.F.type_list_append mt_append (pv 1) (pa_cons (pe_tup (pa_cons pe_str (pa_cons pe_noway pa_nil))) pa_nil)))) pss_nil)
      (pss_cons (ps_if (pt_val (pe_callB (call_isD (p := p) (D := cSk K) (d := d) List.mem_cons_self (xt_BadSky T).exc hz hf) rfl (n_isinstance T) (by decide +kernel) (pa_cons (pv 0) (pa_cons (pe_glob (v := .ref _) rfl (g_BadTable T) rfl) pa_nil)))) (pss_one (ps_expr (pe_bm PySem.F.plainAttrs_list PySem.F.slot_list_append PySem.F.type_list_append mt_append (pv 1) (pa_cons (pe_tup (pa_cons pe_str (pa_cons pe_noway (pa_cons pe_noway pa_nil)))) pa_nil)))) pss_nil)
      (pss_cons (ps_if (pt_val (pe_callB (call_isD (p := p) (D := cSk K) (d := d) List.mem_cons_self (xt_BadSky T).exc hz hf) rfl (n_isinstance T) (by decide +kernel) (pa_cons (pv 0) (pa_cons (pe_glob (v := .ref _) rfl (g_BadSetting T) rfl) pa_nil)))) (pss_one (ps_expr (pe_bm PySem.F.plainAttrs_list PySem.F.slot_list_append PySem.F.type_list_append mt_append (pv 1) (pa_cons (pe_tup (pa_cons pe_str (pa_cons pe_noway pa_nil))) pa_nil)))) pss_nil)
      (pss_one (ps_ret (pe_tup (pa_cons pe_str (pa_cons (pv 1) pa_nil))))))))))), ?_⟩
  refine ⟨(by show 0 ≤ sizeLine; decide), fun a ha => ?_⟩
  obtain ⟨h0, hF⟩ := new2 (.lst []) ha
  refine ⟨_, rfl, _, _, false, _, rfl, (fun u e => e), h0 _ _ hd, xk_BadSky_TooMany T, _, rfl, iteF ?_⟩
  refine ⟨_, rfl, _, _, true, _, rfl, (fun u e => e), h0 _ _ hd, xk_BadSky_BadSky T, _, rfl, iteT ?_⟩
  refine ⟨_, rfl, .inl ⟨rfl, _, SqL.of hF⟩, _, rfl, rfl, rfl, d, _, v0, rfl, h0 _ _ hd, rfl, (by show 2 ≤ sizeLine; decide), fun t ht => ?_⟩
  obtain ⟨hA, hT⟩ := new2 (.tup [.str "BadSky", v0]) ht
  have hF := hA _ _ hF
  have h1 := h0.trans hA
  refine ⟨a, [], _, rfl, rfl, hF, (by show 0 < sizeLine; decide), ?_⟩
  obtain ⟨H2, eH, h2, hT, hF⟩ := app1 h1 ha hF hT
  rw [← eH]
  clear hA eH
  refine ⟨_, rfl, _, _, false, _, rfl, (fun u e => e), h2 _ _ hd, xk_BadSky_BadWeather T, _, rfl, iteF ?_⟩
  refine ⟨_, rfl, _, _, false, _, rfl, (fun u e => e), h2 _ _ hd, xk_BadSky_BadTable T, _, rfl, iteF ?_⟩
  refine ⟨_, rfl, _, _, false, _, rfl, (fun u e => e), h2 _ _ hd, xk_BadSky_BadSetting T, _, rfl, iteF ?_⟩
  refine ⟨_, rfl, (by show 2 ≤ sizeLine; decide), fun r hr_ => ?_⟩
  obtain ⟨hA, hR⟩ := new2 (.tup [.str "raised", .ref a]) hr_
  exact q _ _ _ _ (h2.trans hA) (hA _ _ hT) (hA _ _ hF) hR (none_of h2 hr_)
theorem body_BadWeather (T : Txt w K mg) {A : Around} {outer : List Env} {s : Shared} {H : Hp} {Q : VK} {p : Addr × Obj} {d : Addr} {v0 : V} {f : Addr} {cdv : Value} (hz : Zc (.ref (cWe K)) (some d) p.2) (hf : ∃ vs, p.2.data = .fields vs)
    (hd : H d = some (.xd [("day", v0)])) (q : ∀ r l t H', Same H H' → H' t = some (.tup [.str "BadWeather", v0]) → H' l = some (.lst [.ref t]) → H' r = some (.tup [.str "raised", .ref l]) → H r = none → Q (.ref r) H') :
    ∃ t, PSs (L2H.cxH CX0 P w K mg base ["raised", "found"] "_law_caught" (defScope s__law_caught) f cdv A outer s H E0 p) (defBody s__law_caught) t ∧ t { nx := fun _ H' => Q .non H', rt := Q } (L2.start ["raised", "found"] [.ref p.1]) H := by
  refine ⟨_, (pss_cons (ps_set (i := 1) sc__law_caught.nd rfl (by first | exact Or.inl rfl | exact Or.inr rfl) (pe_lst pa_nil))
      (pss_cons (ps_if (pt_val (pe_callB (call_isD (p := p) (D := cWe K) (d := d) List.mem_cons_self (xt_BadWeather T).exc hz hf) rfl (n_isinstance T) (by decide +kernel) (pa_cons (pv 0) (pa_cons (pe_glob (v := .ref _) rfl (g_TooMany T) rfl) pa_nil)))) (pss_one (ps_expr (pe_bm PySem.F.plainAttrs_list PySem.F.slot_list_append PySem.F.type_list_append mt_append (pv 1) (pa_cons (pe_tup (pa_cons pe_str (pa_cons pe_noway pa_nil))) pa_nil)))) pss_nil)
      (pss_cons (ps_if (pt_val (pe_callB (call_isD (p := p) (D := cWe K) (d := d) List.mem_cons_self (xt_BadWeather T).exc hz hf) rfl (n_isinstance T) (by decide +kernel) (pa_cons (pv 0) (pa_cons (pe_glob (v := .ref _) rfl (g_BadSky T) rfl) pa_nil)))) (pss_one (ps_expr (pe_bm PySem.F.plainAttrs_list PySem.F.slot_list_append PySem.F.type_list_append mt_append (pv 1) (pa_cons (pe_tup (pa_cons pe_str (pa_cons pe_noway pa_nil))) pa_nil)))) pss_nil)
      (pss_cons (ps_if (pt_val (pe_callB (call_isD (p := p) (D := cWe K) (d := d) List.mem_cons_self (xt_BadWeather T).exc hz hf) rfl (n_isinstance T) (by decide +kernel) (pa_cons (pv 0) (pa_cons (pe_glob (v := .ref _) rfl (g_BadWeather T) rfl) pa_nil)))) (pss_one (ps_expr (pe_bm PySem.F.plainAttrs_list PySem.F.slot_list_append PySem.F.type_list_append mt_append (pv 1) (pa_cons (pe_tup (pa_cons pe_str (pa_cons (pe_xfG (p := p) (C := cWe K) List.mem_cons_self (xt_BadWeather T).xf (xn_BadWeather_day T) hz hf (pv 0)) pa_nil))) pa_nil)))) pss_nil)
      (pss_cons (ps_if (pt_val (pe_callB (call_isD (p := p) (D := cWe K) (d := d) List.mem_cons_self (xt_BadWeather T).exc hz hf) rfl (n_isinstance T) (by decide +kernel) (pa_cons (pv 0) (pa_cons (pe_glob (v := .ref _) rfl (g_BadTable T) rfl) pa_nil)))) (pss_one (ps_expr (pe_bm PySem.F.plainAttrs_list PySem.F.slot_list_append PySem.F.type_list_append mt_append (pv 1) (pa_cons (pe_tup (pa_cons pe_str (pa_cons pe_noway (pa_cons pe_noway pa_nil)))) pa_nil)))) pss_nil)
      (pss_cons (ps_if (pt_val (pe_callB (call_isD (p := p) (D := cWe K) (d := d) List.mem_cons_self (xt_BadWeather T).exc hz hf) rfl (n_isinstance T) (by decide +kernel) (pa_cons (pv 0) (pa_cons (pe_glob (v := .ref _) rfl (g_BadSetting T) rfl) pa_nil)))) (pss_one (ps_expr (pe_bm PySem.F.plainAttrs_list PySem.F.slot_list_append PySem.F.type_list_append mt_append (pv 1) (pa_cons (pe_tup (pa_cons pe_str (pa_cons pe_noway pa_nil))) pa_nil)))) pss_nil)
      (pss_one (ps_ret (pe_tup (pa_cons pe_str (pa_cons (pv 1) pa_nil))))))))))), ?_⟩
  refine ⟨(by show 0 ≤ sizeLine; decide), fun a ha => ?_⟩
  obtain ⟨h0, hF⟩ := new2 (.lst []) ha
  refine ⟨_, rfl, _, _, false, _, rfl, (fun u e => e), h0 _ _ hd, xk_BadWeather_TooMany T, _, rfl, iteF ?_⟩
  refine ⟨_, rfl, _, _, false, _, rfl, (fun u e => e), h0 _ _ hd, xk_BadWeather_BadSky T, _, rfl, iteF ?_⟩
  refine ⟨_, rfl, _, _, true, _, rfl, (fun u e => e), h0 _ _ hd, xk_BadWeather_BadWeather T, _, rfl, iteT ?_⟩
  refine ⟨_, rfl, .inl ⟨rfl, _, SqL.of hF⟩, _, rfl, rfl, rfl, d, _, v0, rfl, h0 _ _ hd, rfl, (by show 2 ≤ sizeLine; decide), fun t ht => ?_⟩
  obtain ⟨hA, hT⟩ := new2 (.tup [.str "BadWeather", v0]) ht
  have hF := hA _ _ hF
  have h1 := h0.trans hA
  refine ⟨a, [], _, rfl, rfl, hF, (by show 0 < sizeLine; decide), ?_⟩
  obtain ⟨H2, eH, h2, hT, hF⟩ := app1 h1 ha hF hT
  rw [← eH]
  clear hA eH
  refine ⟨_, rfl, _, _, false, _, rfl, (fun u e => e), h2 _ _ hd, xk_BadWeather_BadTable T, _, rfl, iteF ?_⟩
  refine ⟨_, rfl, _, _, false, _, rfl, (fun u e => e), h2 _ _ hd, xk_BadWeather_BadSetting T, _, rfl, iteF ?_⟩
  refine ⟨_, rfl, (by show 2 ≤ sizeLine; decide), fun r hr_ => ?_⟩
  obtain ⟨hA, hR⟩ := new2 (.tup [.str "raised", .ref a]) hr_
  exact q _ _ _ _ (h2.trans hA) (hA _ _ hT) (hA _ _ hF) hR (none_of h2 hr_)
theorem body_BadTable (T : Txt w K mg) {A : Around} {outer : List Env} {s : Shared} {H : Hp} {Q : VK} {p : Addr × Obj} {d : Addr} {v0 v1 : V} {f : Addr} {cdv : Value} (hz : Zc (.ref (cBT K)) (some d) p.2) (hf : ∃ vs, p.2.data = .fields vs)
    (hd : H d = some (.xd [("last", v1), ("first", v0)])) (q : ∀ r l t H', Same H H' → H' t = some (.tup [.str "BadTable", v0, v1]) → H' l = some (.lst [.ref t]) → H' r = some (.tup [.str "raised", .ref l]) → H r = none → Q (.ref r) H') :
    ∃ t, PSs (L2H.cxH CX0 P w K mg base ["raised", "found"] "_law_caught" (defScope s__law_caught) f cdv A outer s H E0 p) (defBody s__law_caught) t ∧ t { nx := fun _ H' => Q .non H', rt := Q } (L2.start ["raised", "found"] [.ref p.1]) H := by
  refine ⟨_, (pss_cons (ps_set (i := 1) sc__law_caught.nd rfl (by first | exact Or.inl rfl | exact Or.inr rfl) (pe_lst pa_nil))
      (pss_cons (ps_if (pt_val (pe_callB (call_isD (p := p) (D := cBT K) (d := d) List.mem_cons_self (xt_BadTable T).exc hz hf) rfl (n_isinstance T) (by decide +kernel) (pa_cons (pv 0) (pa_cons (pe_glob (v := .ref _) rfl (g_TooMany T) rfl) pa_nil)))) (pss_one (ps_expr (pe_bm PySem.F.plainAttrs_list PySem.F.slot_list_append PySem.F.type_list_append mt_append (pv 1) (pa_cons (pe_tup (pa_cons pe_str (pa_cons pe_noway pa_nil))) pa_nil)))) pss_nil)
      (pss_cons (ps_if (pt_val (pe_callB (call_isD (p := p) (D := cBT K) (d := d) List.mem_cons_self (xt_BadTable T).exc hz hf) rfl (n_isinstance T) (by decide +kernel) (pa_cons (pv 0) (pa_cons (pe_glob (v := .ref _) rfl (g_BadSky T) rfl) pa_nil)))) (pss_one (ps_expr (pe_bm PySem.F.plainAttrs_list PySem.F.slot_list_append PySem.F.type_list_append mt_append (pv 1) (pa_cons (pe_tup (pa_cons pe_str (pa_cons pe_noway pa_nil))) pa_nil)))) pss_nil)
      (pss_cons (ps_if (pt_val (pe_callB (call_isD (p := p) (D := cBT K) (d := d) List.mem_cons_self (xt_BadTable T).exc hz hf) rfl (n_isinstance T) (by decide +kernel) (pa_cons (pv 0) (pa_cons (pe_glob (v := .ref _) rfl (g_BadWeather T) rfl) pa_nil)))) (pss_one (ps_expr (pe_bm PySem.F.plainAttrs_list PySem.F.slot_list_append PySem.F.type_list_append mt_append (pv 1) (pa_cons (pe_tup (pa_cons pe_str (pa_cons pe_noway pa_nil))) pa_nil)))) pss_nil)
      (pss_cons (ps_if (pt_val (pe_callB (call_isD (p := p) (D := cBT K) (d := d) List.mem_cons_self (xt_BadTable T).exc hz hf) rfl (n_isinstance T) (by decide +kernel) (pa_cons (pv 0) (pa_cons (pe_glob (v := .ref _) rfl (g_BadTable T) rfl) pa_nil)))) (pss_one (ps_expr (pe_bm PySem.F.plainAttrs_list PySem.F.slot_list_append PySem.F.type_list_append mt_append (pv 1) (pa_cons (pe_tup (pa_cons pe_str (pa_cons (pe_xfG (p := p) (C := cBT K) List.mem_cons_self (xt_BadTable T).xf (xn_BadTable_first T) hz hf (pv 0)) (pa_cons (pe_xfG (p := p) (C := cBT K) List.mem_cons_self (xt_BadTable T).xf (xn_BadTable_last T) hz hf (pv 0)) pa_nil)))) pa_nil)))) pss_nil)
      (pss_cons (ps_if (pt_val (pe_callB (call_isD (p := p) (D := cBT K) (d := d) List.mem_cons_self (xt_BadTable T).exc hz hf) rfl (n_isinstance T) (by decide +kernel) (pa_cons (pv 0) (pa_cons (pe_glob (v := .ref _) rfl (g_BadSetting T) rfl) pa_nil)))) (pss_one (ps_expr (pe_bm PySem.F.plainAttrs_list PySem.F.slot_list_append PySem.F.type_list_append mt_append (pv 1) (pa_cons (pe_tup (pa_cons pe_str (pa_cons pe_noway pa_nil))) pa_nil)))) pss_nil)
      (pss_one (ps_ret (pe_tup (pa_cons pe_str (pa_cons (pv 1) pa_nil))))))))))), ?_⟩
  refine ⟨(by show 0 ≤ sizeLine; decide), fun a ha => ?_⟩
  obtain ⟨h0, hF⟩ := new2 (.lst []) ha
  refine ⟨_, rfl, _, _, false, _, rfl, (fun u e => e), h0 _ _ hd, xk_BadTable_TooMany T, _, rfl, iteF ?_⟩
  refine ⟨_, rfl, _, _, false, _, rfl, (fun u e => e), h0 _ _ hd, xk_BadTable_BadSky T, _, rfl, iteF ?_⟩
  refine ⟨_, rfl, _, _, false, _, rfl, (fun u e => e), h0 _ _ hd, xk_BadTable_BadWeather T, _, rfl, iteF ?_⟩
  refine ⟨_, rfl, _, _, true, _, rfl, (fun u e => e), h0 _ _ hd, xk_BadTable_BadTable T, _, rfl, iteT ?_⟩
  refine ⟨_, rfl, .inl ⟨rfl, _, SqL.of hF⟩, _, rfl, rfl, rfl, d, _, v0, rfl, h0 _ _ hd, rfl, _, rfl, rfl, rfl, d, _, v1, rfl, h0 _ _ hd, rfl, (by show 3 ≤ sizeLine; decide), fun t ht => ?_⟩
  obtain ⟨hA, hT⟩ := new2 (.tup [.str "BadTable", v0, v1]) ht
  have hF := hA _ _ hF
  have h1 := h0.trans hA
  refine ⟨a, [], _, rfl, rfl, hF, (by show 0 < sizeLine; decide), ?_⟩
  obtain ⟨H2, eH, h2, hT, hF⟩ := app1 h1 ha hF hT
  rw [← eH]
  clear hA eH
  refine ⟨_, rfl, _, _, false, _, rfl, (fun u e => e), h2 _ _ hd, xk_BadTable_BadSetting T, _, rfl, iteF ?_⟩
  refine ⟨_, rfl, (by show 2 ≤ sizeLine; decide), fun r hr_ => ?_⟩
  obtain ⟨hA, hR⟩ := new2 (.tup [.str "raised", .ref a]) hr_
  exact q _ _ _ _ (h2.trans hA) (hA _ _ hT) (hA _ _ hF) hR (none_of h2 hr_)
/-- what is raised: the class, the error's own dict, what is told of it -/
def ErrX (K : PySem.W.Frag) (C : Addr) (fs : List (Str × V)) (tl : List V) : Prop := (∃ v0, C = cTM K ∧ fs = [(("what" : Str), v0)] ∧ tl = [.str "TooMany", v0]) ∨ (∃ v0, C = cSk K ∧ fs = [(("row" : Str), v0)] ∧ tl = [.str "BadSky", v0]) ∨ (∃ v0, C = cWe K ∧ fs = [(("day" : Str), v0)] ∧ tl = [.str "BadWeather", v0]) ∨ (∃ v0 v1, C = cBT K ∧ fs = [(("last" : Str), v1), (("first" : Str), v0)] ∧ tl = [.str "BadTable", v0, v1])
def spErr (K : PySem.W.Frag) : SpE := fun a cls d vs H Q _ => ∃ (C : Addr) (fs : List (Str × V)) (tl : List V) (d' : Addr), ErrX K C fs tl ∧ vs = [.ref a] ∧ cls = .ref C ∧ d = some d' ∧ H d' = some (.xd fs) ∧ ∀ r l t H', Same H H' → H' t = some (.tup tl) → H' l = some (.lst [.ref t]) → H' r = some (.tup [.str "raised", .ref l]) → H r = none → Q (.ref r) H'
theorem fe_caught (T : Txt w K mg) : ∃ f fd, FnE P w K mg base 1 f fd ["raised"] (spErr K) ∧ mg "_law_caught" = some (.ref f) ∧ PySem.W.keepIn K (.ref f) = true ∧ Binds K fd ["raised"] [] := by
  obtain ⟨f, fd, F, g⟩ := f__law_caught T
  refine ⟨f, fd, ?_, g, F.kp, F.bindsN (fun _ _ _ _ _ _ us hl => match us, hl with | [_], _ => rfl)⟩
  obtain ⟨oc, od, dV, kV, doc, pm, an, cdv, ct, osl, rfl, lk, hcd, _, _⟩ := F.ex
  refine fnE_of (k := 0) lk hcd sc__law_caught (fun a cls d vs H Q E h => ?_) (fun A outer s H vs Q p cls d hr hz hf h => ?_)
  · obtain ⟨C, fs, tl, d', _, rfl, _⟩ := h
    rfl
  · obtain ⟨C, fs, tl, d', hC, rfl, rfl, rfl, hd, q⟩ := h
    rcases hC with ⟨v0, rfl, rfl, rfl⟩ | ⟨v0, rfl, rfl, rfl⟩ | ⟨v0, rfl, rfl, rfl⟩ | ⟨v0, v1, rfl, rfl, rfl⟩
    · exact body_TooMany T hz hf hd q
    · exact body_BadSky T hz hf hd q
    · exact body_BadWeather T hz hf hd q
    · exact body_BadTable T hz hf hd q
theorem ErrX.seen (T : Txt w K mg) {C : Addr} {fs : List (Str × V)} {tl : List V} (h : ErrX K C fs tl) : PySem.W.exmOne K (.ref C) (.ref (He.ga K "SeenError")) = some true := by
  rcases h with ⟨_, rfl, _⟩ | ⟨_, rfl, _⟩ | ⟨_, rfl, _⟩ | ⟨_, _, rfl, _⟩
  · exact xs_TooMany T
  · exact xs_BadSky T
  · exact xs_BadWeather T
  · exact xs_BadTable T
end
end K27
end
section
set_option maxRecDepth 100000
set_option maxHeartbeats 4000000
namespace K27
open PySem PySem.Spec PyProof.Rows L2
def RsdX (H : Hp) (r : Addr) (tl : List V) : Prop := ∃ l t, H r = some (.tup [.str "raised", .ref l]) ∧ H l = some (.lst [.ref t]) ∧ H t = some (.tup tl)
theorem RsdX.same {H H' : Hp} {r : Addr} {tl : List V} (h : RsdX H r tl) (e : Same H H') : RsdX H' r tl := by
  obtain ⟨m1, m2, z1, z2, z3⟩ := h
  exact ⟨m1, m2, e _ _ z1, e _ _ z2, e _ _ z3⟩
section
variable {P : Program} {w : World} {K : PySem.W.Frag} {mg : Str → Option Value} {base : Heap}
def spAskLot (K : PySem.W.Frag) : Sp := fun vs H Q _ => ∃ (T : Nat) (p l : Addr) (rs : List Q4) (ss : List V) (lot : List (Int × Int)), vs = [.ref p, .ref l] ∧ AlmAt K H p T rs ∧ H l = some (.lst ss) ∧ Paired (PairT H) ss lot ∧ lot.length ≤ 1000 ∧ T ≤ 24 ∧ rs.length ≤ 40 ∧ (∀ r ∈ rs, GoodR r ∧ r.2.1 ≤ 1000) ∧
  (14 < lot.length → ∀ r H', Same H H' → RsdX H' r [.str "TooMany", .str "lot"] → Q (.ref r) H') ∧ (lot.length ≤ 14 → ∀ n, BadCan rs n → ∀ r H', Same H H' → RsdX H' r [.str "BadSky", .int ((n : Int) + 1)] → Q (.ref r) H') ∧
  (lot.length ≤ 14 → OneCan rs → ∀ (n : Nat) s, lot[n]? = some s → ¬ StrOk T s → (∀ (m : Nat) s', m < n → lot[m]? = some s' → StrOk T s') → ∀ r H', Same H H' → RsdX H' r [.str "BadTable", .int s.1, .int s.2] → Q (.ref r) H') ∧
  (lot.length ≤ 14 → (∀ s ∈ lot, StrOk T s) → ∀ ws : List (Int × Int), rs = ws.map canR →
    (∀ (n : Nat) (c : Int × Int) r H', ws[n]? = some c → freeD T lot c = 0 → (∀ i c', i < n → ws[i]? = some c' → freeD T lot c' ≠ 0) → Same H H' → H' r = some (.tup [.str "rain", .int ((n : Int) + 1)]) → Q (.ref r) H') ∧
    ((∀ c ∈ ws, freeD T lot c ≠ 0) → ∀ r m H', Same H H' → H' r = some (.tup [.str "weather", .ref m]) → WeaT H' m (wayR T ((ws.map (freeD T lot)).map (optOf T)) ws.length) → Q (.ref r) H'))
theorem ok__law_ask_lot (T : Txt w K mg) : Ok P w K mg base CX0 9 "_law_ask_lot" ["almanac", "lot"] (spAskLot K) := by
  obtain ⟨fe, fde, FE, ge, ke, be⟩ := fe_caught (P := P) (base := base) T
  refine Ok.def0 (f__law_ask_lot T) (fun _ _ _ _ _ _ us hl => match us, hl with | [_, _], _ => rfl) sc__law_ask_lot (fun vs H Q E h => ?_) (fun f cdv A outer s H vs Q E hr h => ?_)
  · obtain ⟨TT, p, l, rs, ss, lot, rfl, _⟩ := h
    rfl
  · obtain ⟨TT, p, l, rs, ss, lot, rfl, hA, hl, hP, hll, hT, hrl, hg, kt, ks, kb, k⟩ := h
    refine ⟨_, (pss_one (L2.ps_try_as (ts := fun a cls d => tRet (tCallE (spErr K a cls d) (tCons (tVar 2) tNil))) (i := 2) (c := .ref (He.ga K "SeenError")) rfl rfl sc__law_ask_lot.nd rfl rfl ⟨rfl, by decide, .inl (g_SeenError T)⟩ LamX.takes0 (fun W pn xe tk _ => pss_one (ps_ret (pe_okS (ok_lot_together T) (hr.mono (by first | decide | omega)) rfl (fun σ => passAt tk σ) (pa_cons (pv 0) (pa_cons (pv 1) pa_nil))))) (fun a oe cls d pn hz hf => pss_one (ps_ret (pe_callE (X := Cx.suite (Cx.nox (cxOf CX0 P w K mg base ["almanac", "lot", "raised"] "_law_ask_lot" (defScope s__law_ask_lot) f cdv A outer s H E)) a ((a, oe) :: pn)) (x := "_law_caught") (p := (a, oe)) FE (L2H.RoomH.mk (hr.mono (by decide : 1 ≤ 8)).dp (hr.mono (by decide : 1 ≤ 8)).un) List.mem_cons_self hz hf rfl ge ke be (pa_cons (pv 2) pa_nil)))))), ?_⟩
    refine ⟨_, rfl, _, rfl, TT, p, l, rs, ss, lot, rfl, hA, hl, hP, hll, hT, hrl, hg, fun c d H' s1 hd => ?_, fun c n hb d H' s1 hd => ?_, fun c hone n s hs hbad hno d H' s1 hd => ?_, k⟩
    · exact ⟨true, ErrX.seen T (.inl ⟨V.non, rfl, rfl, rfl⟩), fun _ a ha => ⟨_, rfl, _, _, _, d, .inl ⟨_, rfl, rfl, rfl⟩, rfl, rfl, rfl, hd, fun r l t H3 s3 ht hl hr hr0 => kt c r H3 (s1.trans s3) ⟨l, t, hr, hl, ht⟩⟩, fun z => by cases z⟩
    · exact ⟨true, ErrX.seen T (.inr (.inl ⟨V.non, rfl, rfl, rfl⟩)), fun _ a ha => ⟨_, rfl, _, _, _, d, .inr (.inl ⟨_, rfl, rfl, rfl⟩), rfl, rfl, rfl, hd, fun r l t H3 s3 ht hl hr hr0 => ks c n hb r H3 (s1.trans s3) ⟨l, t, hr, hl, ht⟩⟩, fun z => by cases z⟩
    · exact ⟨true, ErrX.seen T (.inr (.inr (.inr ⟨V.non, V.non, rfl, rfl, rfl⟩))), fun _ a ha => ⟨_, rfl, _, _, _, d, .inr (.inr (.inr ⟨_, _, rfl, rfl, rfl⟩)), rfl, rfl, rfl, hd, fun r l t H3 s3 ht hl hr hr0 => kb c hone n s hs hbad hno r H3 (s1.trans s3) ⟨l, t, hr, hl, ht⟩⟩, fun z => by cases z⟩
def spAskU (K : PySem.W.Frag) : Sp := fun vs H Q _ => ∃ (T : Nat) (p wl : Addr) (rs : List Q4) (ys : List V) (Ws : List (List (List (Int × Int)))), vs = [.ref p, .ref wl] ∧ AlmAt K H p T rs ∧ H wl = some (.lst ys) ∧ Paired (WeaV H) ys Ws ∧ T ≤ 24 ∧ rs.length ≤ 40 ∧ (∀ r ∈ rs, GoodR r) ∧ (∀ W ∈ Ws, W.length ≤ 100 ∧ total W ≤ 2000) ∧
  (2000 < Ws.length → ∀ r H', Same H H' → RsdX H' r [.str "TooMany", .str "weathers"] → Q (.ref r) H') ∧ (Ws.length ≤ 2000 → ∀ n, BadCan rs n → ∀ r H', Same H H' → RsdX H' r [.str "BadSky", .int ((n : Int) + 1)] → Q (.ref r) H') ∧
  (Ws.length ≤ 2000 → OneCan rs → ∀ (n : Nat) W, Ws[n]? = some W → wrongOf rs T W ≠ -1 → (∀ (m : Nat) W', m < n → Ws[m]? = some W' → wrongOf rs T W' = -1) → ∀ r H', Same H H' → RsdX H' r [.str "BadWeather", .int (wrongOf rs T W)] → Q (.ref r) H') ∧
  (Ws.length ≤ 2000 → OneCan rs → (∀ W ∈ Ws, wrongOf rs T W = -1) → ∀ r v H', Same H H' → H' r = some (.tup [.str "told", v]) → (undL rs T Ws = [] ∧ v = .non ∨ ∃ c r, undL rs T Ws = c :: r ∧ PairT H' v c) → Q (.ref r) H')
theorem ok__law_ask_undecided (T : Txt w K mg) : Ok P w K mg base CX0 10 "_law_ask_undecided" ["almanac", "weathers"] (spAskU K) := by
  obtain ⟨fe, fde, FE, ge, ke, be⟩ := fe_caught (P := P) (base := base) T
  refine Ok.def0 (f__law_ask_undecided T) (fun _ _ _ _ _ _ us hl => match us, hl with | [_, _], _ => rfl) sc__law_ask_undecided (fun vs H Q E h => ?_) (fun f cdv A outer s H vs Q E hr h => ?_)
  · obtain ⟨TT, p, wl, rs, ys, Ws, rfl, _⟩ := h
    rfl
  · obtain ⟨TT, p, wl, rs, ys, Ws, rfl, hA, hwl, hP, hT, hrl, hg, hWs, kt, ks, kw, k⟩ := h
    refine ⟨_, (pss_one (L2.ps_try_as (ts := fun a cls d => tRet (tCallE (spErr K a cls d) (tCons (tVar 2) tNil))) (i := 2) (c := .ref (He.ga K "SeenError")) rfl rfl sc__law_ask_undecided.nd rfl rfl ⟨rfl, by decide, .inl (g_SeenError T)⟩ LamX.takes0 (fun W pn xe tk _ => pss_one (ps_ret (pe_tup (pa_cons pe_str (pa_cons (pe_okS (ok_first_undecided T) (hr.mono (by first | decide | omega)) rfl (fun σ => passAt tk σ) (pa_cons (pv 0) (pa_cons (pv 1) pa_nil))) pa_nil))))) (fun a oe cls d pn hz hf => pss_one (ps_ret (pe_callE (X := Cx.suite (Cx.nox (cxOf CX0 P w K mg base ["almanac", "weathers", "raised"] "_law_ask_undecided" (defScope s__law_ask_undecided) f cdv A outer s H E)) a ((a, oe) :: pn)) (x := "_law_caught") (p := (a, oe)) FE (L2H.RoomH.mk (hr.mono (by decide : 1 ≤ 9)).dp (hr.mono (by decide : 1 ≤ 9)).un) List.mem_cons_self hz hf rfl ge ke be (pa_cons (pv 2) pa_nil)))))), ?_⟩
    refine ⟨_, rfl, _, rfl, TT, p, wl, rs, ys, Ws, rfl, hA, hwl, hP, hT, hrl, hg, hWs, fun c d H' s1 hd => ?_, fun c n hb d H' s1 hd => ?_, fun c hone n W hW hbad hno d H' s1 hd => ?_, fun c hone hall H1 s1 => ⟨fun hU => ⟨(by show 2 ≤ sizeLine; decide), fun t ht => ?_⟩, fun x e r' hU hx => ⟨(by show 2 ≤ sizeLine; decide), fun t ht => ?_⟩⟩⟩
    · exact ⟨true, ErrX.seen T (.inl ⟨V.non, rfl, rfl, rfl⟩), fun _ a ha => ⟨_, rfl, _, _, _, d, .inl ⟨_, rfl, rfl, rfl⟩, rfl, rfl, rfl, hd, fun r l t H3 s3 ht hl hr hr0 => kt c r H3 (s1.trans s3) ⟨l, t, hr, hl, ht⟩⟩, fun z => by cases z⟩
    · exact ⟨true, ErrX.seen T (.inr (.inl ⟨V.non, rfl, rfl, rfl⟩)), fun _ a ha => ⟨_, rfl, _, _, _, d, .inr (.inl ⟨_, rfl, rfl, rfl⟩), rfl, rfl, rfl, hd, fun r l t H3 s3 ht hl hr hr0 => ks c n hb r H3 (s1.trans s3) ⟨l, t, hr, hl, ht⟩⟩, fun z => by cases z⟩
    · exact ⟨true, ErrX.seen T (.inr (.inr (.inl ⟨V.non, rfl, rfl, rfl⟩))), fun _ a ha => ⟨_, rfl, _, _, _, d, .inr (.inr (.inl ⟨_, rfl, rfl, rfl⟩)), rfl, rfl, rfl, hd, fun r l t H3 s3 ht hl hr hr0 => kw c hone n W hW hbad hno r H3 (s1.trans s3) ⟨l, t, hr, hl, ht⟩⟩, fun z => by cases z⟩
    · obtain ⟨s2, g2⟩ := new2 (.tup [.str "told", .non]) ht
      exact k c hone hall t .non _ (s1.trans s2) g2 (.inl ⟨hU, rfl⟩)
    · obtain ⟨s2, g2⟩ := new2 (.tup [.str "told", x]) ht
      exact k c hone hall t x _ (s1.trans s2) g2 (.inr ⟨e, r', hU, hx.same s2⟩)
def spAskS (K : PySem.W.Frag) : Sp := fun vs H Q _ => ∃ (T : Nat) (p : Addr) (x : V) (rs : List Q4) (s : Int × Int), vs = [.ref p, x] ∧ AlmAt K H p T rs ∧ PairT H x s ∧ 1 ≤ T ∧ T ≤ 24 ∧ rs.length ≤ 40 ∧ (∀ r ∈ rs, GoodR r) ∧
  (∀ n, BadCan rs n → ∀ r H', Same H H' → RsdX H' r [.str "BadSky", .int ((n : Int) + 1)] → Q (.ref r) H') ∧ (OneCan rs → ¬ StrOk T s → ∀ r H', Same H H' → RsdX H' r [.str "BadTable", .int s.1, .int s.2] → Q (.ref r) H') ∧
  (OneCan rs → ∀ a b : Nat, s = ((a : Int), (b : Int)) → a < b → b ≤ T → ∀ n : Nat, tabR rs a b = (n : Int) → n ≤ 40 → ∀ r l xs H', Same H H' → H' r = some (.tup [.str "told", .ref l]) → H' l = some (.lst xs) → Paired (PairT H') xs (List.replicate (n + 1) ((a : Int) + 1, (b : Int))) → Q (.ref r) H')
theorem ok__law_ask_slips (T : Txt w K mg) : Ok P w K mg base CX0 10 "_law_ask_slips" ["almanac", "stretch"] (spAskS K) := by
  obtain ⟨fe, fde, FE, ge, ke, be⟩ := fe_caught (P := P) (base := base) T
  refine Ok.def0 (f__law_ask_slips T) (fun _ _ _ _ _ _ us hl => match us, hl with | [_, _], _ => rfl) sc__law_ask_slips (fun vs H Q E h => ?_) (fun f cdv A outer s H vs Q E hr h => ?_)
  · obtain ⟨TT, p, x, rs, s, rfl, _⟩ := h
    rfl
  · obtain ⟨TT, p, x, rs, sx, rfl, hA, hx, hT1, hT, hrl, hg, ks, kb, k⟩ := h
    refine ⟨_, (pss_one (L2.ps_try_as (ts := fun a cls d => tRet (tCallE (spErr K a cls d) (tCons (tVar 2) tNil))) (i := 2) (c := .ref (He.ga K "SeenError")) rfl rfl sc__law_ask_slips.nd rfl rfl ⟨rfl, by decide, .inl (g_SeenError T)⟩ LamX.takes0 (fun W pn xe tk _ => pss_one (ps_ret (pe_tup (pa_cons pe_str (pa_cons (pe_okM0 (okm_Garden_rows T) (cl_Garden T) (pe_okS (ok_slipping_garden T) (hr.mono (by first | decide | omega)) rfl (fun σ => passAt tk σ) (pa_cons (pv 0) (pa_cons (pv 1) pa_nil))) (hr.mono (by first | decide | omega)) pass0) pa_nil))))) (fun a oe cls d pn hz hf => pss_one (ps_ret (pe_callE (X := Cx.suite (Cx.nox (cxOf CX0 P w K mg base ["almanac", "stretch", "raised"] "_law_ask_slips" (defScope s__law_ask_slips) f cdv A outer s H E)) a ((a, oe) :: pn)) (x := "_law_caught") (p := (a, oe)) FE (L2H.RoomH.mk (hr.mono (by decide : 1 ≤ 9)).dp (hr.mono (by decide : 1 ≤ 9)).un) List.mem_cons_self hz hf rfl ge ke be (pa_cons (pv 2) pa_nil)))))), ?_⟩
    refine ⟨_, rfl, _, rfl, TT, p, x, rs, sx, rfl, hA, hx, hT1, hT, hrl, hg, fun n hb d H' s1 hd => ?_, fun hone hbad d H' s1 hd => ?_, fun hone a b e hab hb n hn hn40 g H1 s1 hG => ?_⟩
    · exact ⟨true, ErrX.seen T (.inr (.inl ⟨V.non, rfl, rfl, rfl⟩)), fun _ a ha => ⟨_, rfl, _, _, _, d, .inr (.inl ⟨_, rfl, rfl, rfl⟩), rfl, rfl, rfl, hd, fun r l t H3 s3 ht hl hr hr0 => ks n hb r H3 (s1.trans s3) ⟨l, t, hr, hl, ht⟩⟩, fun z => by cases z⟩
    · exact ⟨true, ErrX.seen T (.inr (.inr (.inr ⟨V.non, V.non, rfl, rfl, rfl⟩))), fun _ a ha => ⟨_, rfl, _, _, _, d, .inr (.inr (.inr ⟨_, _, rfl, rfl, rfl⟩)), rfl, rfl, rfl, hd, fun r l t H3 s3 ht hl hr hr0 => kb hone hbad r H3 (s1.trans s3) ⟨l, t, hr, hl, ht⟩⟩, fun z => by cases z⟩
    · obtain ⟨dx, l0, xs0, i1, i2, i3⟩ := id hG
      refine ⟨g, dx, _, rfl, i1, ?_, g, TT, _, rfl, hG, fun l xs H2 hl0 s2 g2 hP => ⟨(by show 2 ≤ sizeLine; decide), fun t ht => ?_⟩⟩
      · simp [List.lookup, show (("rows" : Str) == ("days_number" : Str)) = false by decide +kernel, show (("rows" : Str) == ("seed_list" : Str)) = false by decide +kernel]
      · obtain ⟨s3, g3⟩ := new2 (.tup [.str "told", .ref l]) ht
        exact k hone a b e hab hb n hn hn40 t l xs _ (s1.trans (s2.trans s3)) g3 (s3 _ _ g2) (Paired.mapP hP fun _ _ z => z.same s3)
end
end K27
end
section
set_option maxRecDepth 100000
set_option maxHeartbeats 4000000
namespace L2
open PySem PySem.Spec PyProof.Rows
section
variable {σ : St} {H0 : Hp} {ta tb tc : TE} {x y z : Int}
theorem Ev.p0 {K : PySem.W.Frag} {v : V} {c : Int × Int} (h : Ev σ H0 ta v) (hp : PairT H0 v c) : Ev σ H0 (tOp (rIx K) ta (tC (.int 0))) (.int c.1) := fun H' R s k =>
  h H' _ s fun H1 s1 => (hp.same (s.trans s1)).i0 (k H1 s1)
theorem Ev.p1 {K : PySem.W.Frag} {v : V} {c : Int × Int} (h : Ev σ H0 ta v) (hp : PairT H0 v c) : Ev σ H0 (tOp (rIx K) ta (tC (.int 1))) (.int c.2) := fun H' R s k =>
  h H' _ s fun H1 s1 => (hp.same (s.trans s1)).i1 (k H1 s1)
theorem Ev.ltle (h1 : Ev σ H0 ta (.int x)) (h2 : Ev σ H0 tb (.int y)) (h3 : Ev σ H0 tc (.int z)) : Ev σ H0 (tChain (rI0 fun i j => .bl (decide (i < j))) (rI0 fun i j => .bl (decide (i ≤ j))) ta tb tc) (.bl (decide (x < y) && decide (y ≤ z))) := fun H' R s k =>
  h1 H' _ s fun H1 s1 => h2 H1 _ (s.trans s1) fun H2 s2 => ⟨x, y, rfl, rfl, _, rfl, by
    cases hb : decide (x < y) with
    | false =>
      rw [hb] at k
      exact k H2 (s1.trans s2)
    | true =>
      rw [hb] at k
      exact h3 H2 _ (s.trans (s1.trans s2)) fun H3 s3 => ⟨y, z, rfl, rfl, k H3 (s1.trans (s2.trans s3))⟩⟩
end
/-- a filter is empty -/
theorem filter_len0 {α : Type} {p : α → Bool} {l : List α} : (l.filter p).length = 0 ↔ l.all (fun x => !p x) = true := by
  rw [List.length_eq_zero_iff, List.filter_eq_nil_iff, List.all_eq_true]
  constructor
  · intro h x hx
    have := h x hx
    simpa using this
  · intro h x hx
    have := h x hx
    simpa using this
section
variable {K : PySem.W.Frag} {a D : Addr} {xs : List V} {g : TG} {tt : TT} {te : TE} {vs : List Nat} {σ : St} {H1 : Hp} {Q : Hp → Prop}
/-- the things of a list that pass a test, as they stand: how many -/
theorem lc_count {α : Type} {R : Hp → V → α → Prop} {ds : List α} {p : α → Bool} (hD : H1 D = none) (ha : H1 a = some (.lst xs)) (hP : Paired (R H1) xs ds) (hz : xs.length < 100000)
    (hs : ∀ (i : Nat) (x : V) (d : α) (H' : Hp) (N : V → Hp → Prop) (N0 : Hp → Prop), xs[i]? = some x → ds[i]? = some d → R H1 x d → Same H1 H' → (∀ H4, Same H' H4 → p d = true → N x H4) → (∀ H4, Same H' H4 → p d = false → N0 H4) →
      g x (wipe σ vs) H' fun σ2 H2 => wipe σ2 vs = wipe σ vs ∧ tt σ2 H2 fun b H3 => if b = true then te σ2 H3 N else N0 H3)
    (hd : ∀ acc H', Same H1 H' → H' D = some (.lst acc) → acc.length = (ds.filter p).length → (∀ x ∈ acc, x ∈ xs) → Q H') :
    ∃ W : Nat → Nat → Hp → Prop, (∃ m, W 0 m (upd H1 D (.lst []))) ∧ ∀ i m H, W i m H →
      ((Itl K a).stop i H ∧ Q H) ∨ ((Itl K a).go i H ∧ ∃ Nx : Hp → Prop, (∀ H', Nx H' → ∃ m', m' < m ∧ W (i + 1) m' H') ∧ ∀ x H', (Itl K a).yld i H x H' → g x (wipe σ vs) H' fun σ2 H2 => wipe σ2 vs = wipe σ vs ∧ tt σ2 H2 fun b H3 =>
        if b = true then te σ2 H3 fun y H4 => ∃ acc, H4 D = some (.lst acc) ∧ acc.length < sizeLine ∧ Nx (upd H4 D (.lst (acc ++ [y]))) else Nx H3) := by
  refine lc_acc (K := K) (a := a) (xs := xs) hD (SqL.of ha) hz (fun j acc _ => acc.length = ((ds.take j).filter p).length ∧ ∀ x ∈ acc, x ∈ xs) (fun _ _ => ⟨rfl, fun x hx => by cases hx⟩) ?_ ?_
  · rintro i x acc H' N N0 hx s hacc ⟨hl, hm⟩ hN hN0
    obtain ⟨d, hdi, hr⟩ := paired_get hP hx
    refine hs i x d H' N N0 hx hdi hr s (fun H4 s4 q => hN x H4 s4 fun H5 b5 _ => ⟨?_, fun y hy => ?_⟩) fun H4 s4 q => hN0 H4 s4 ⟨?_, hm⟩
    · rw [flt_take hdi true q, List.length_append, hl]
      rfl
    · rcases List.mem_append.mp hy with hy | hy
      · exact hm y hy
      · rw [List.mem_singleton.mp hy]
        exact List.mem_of_getElem? hx
    · rw [flt_take hdi false q, hl]
      rfl
  · rintro acc H' s hacc _ ⟨hl, hm⟩
    rw [Paired.length hP, List.take_length] at hl
    exact hd acc H' s hacc hl hm
end
/-! ### what is told and what is due, None among them -/
def LeafN (v w : V) : Prop := (v = .non ∧ w = .non) ∨ Leaf v w
def MtN : Nat → Hp → V → V → Prop
  | 0, _, v, w => LeafN v w
  | k + 1, H, v, w => LeafN v w ∨ Comp (MtN k) H v w
theorem MtN.same : ∀ {k : Nat} {H H' : Hp} {v w : V}, Same H H' → MtN k H v w → MtN k H' v w
  | 0, _, _, _, _, _, h => h
  | k + 1, _, _, _, _, e, .inl h => .inl h
  | k + 1, _, _, _, _, e, .inr ⟨a, b, xs, ys, e1, e2, h, hl, hz, hr⟩ => .inr ⟨a, b, xs, ys, e1, e2, h.imp (fun z => ⟨e _ _ z.1, e _ _ z.2⟩) (fun z => ⟨e _ _ z.1, e _ _ z.2⟩), hl, hz, fun i x y hx hy => MtN.same e (hr i x y hx hy)⟩
theorem mtN_of : ∀ {k : Nat} {H : Hp} {v w : V}, Mt k H v w → MtN k H v w
  | 0, _, _, _, h => .inr h
  | k + 1, _, _, _, .inl h => .inl (.inr h)
  | k + 1, _, _, _, .inr ⟨a, b, xs, ys, e1, e2, h, hl, hz, hr⟩ => .inr ⟨a, b, xs, ys, e1, e2, h, hl, hz, fun i x y hx hy => mtN_of (hr i x y hx hy)⟩
theorem mtN_up : ∀ {k : Nat} {H : Hp} {v u : V}, MtN k H v u → MtN (k + 1) H v u
  | 0, _, _, _, h => .inl h
  | k + 1, _, _, _, .inl h => .inl h
  | k + 1, _, _, _, .inr ⟨a, b, xs, ys, e1, e2, h, hl, hz, hr⟩ => .inr ⟨a, b, xs, ys, e1, e2, h, hl, hz, fun i x y hx hy => mtN_up (hr i x y hx hy)⟩
theorem mtN_pair {H : Hp} {x y : V} {c : Int × Int} (h1 : PairT H x c) (h2 : PairT H y c) : MtN 1 H x y := by
  obtain ⟨t, rfl, ht⟩ := h1
  obtain ⟨u, rfl, hu⟩ := h2
  refine .inr ⟨t, u, _, _, rfl, rfl, .inr ⟨ht, hu⟩, rfl, (by show 2 ≤ 1000; decide), fun i x y hx hy => ?_⟩
  rw [hx] at hy
  cases hy
  rcases i with _ | _ | i
  · cases hx; exact .inr (.inl ⟨_, rfl, rfl⟩)
  · cases hx; exact .inr (.inl ⟨_, rfl, rfl⟩)
  · cases hx
theorem mtN_list {k : Nat} {α : Type} {R : Hp → V → α → Prop} {H : Hp} {a b : Addr} {xs ys : List V} {ws : List α} (hz : ws.length ≤ 1000) (ha : H a = some (.lst xs)) (hb : H b = some (.lst ys)) (h1 : Paired (R H) xs ws) (h2 : Paired (R H) ys ws) (hR : ∀ x y w, R H x w → R H y w → MtN k H x y) : MtN (k + 1) H (.ref a) (.ref b) := by
  refine .inr ⟨a, b, _, _, rfl, rfl, .inl ⟨ha, hb⟩, by rw [Paired.length h1, Paired.length h2], by rw [Paired.length h2]; exact hz, fun i x y hx hy => ?_⟩
  obtain ⟨c, hc, r1⟩ := paired_get h1 hx
  obtain ⟨d, hd, r2⟩ := paired_get h2 hy
  rw [hc] at hd
  cases hd
  exact hR _ _ _ r1 r2
theorem mtN_two {k : Nat} {H : Hp} {r d : Addr} {z : Str} {x y : V} (hr : H r = some (.tup [.str z, x])) (hd : H d = some (.tup [.str z, y])) (h : MtN k H x y) : MtN (k + 1) H (.ref r) (.ref d) := by
  refine .inr ⟨r, d, _, _, rfl, rfl, .inr ⟨hr, hd⟩, rfl, (by show 2 ≤ 1000; decide), fun i x y hx hy => ?_⟩
  rcases i with _ | _ | i
  · cases hx
    cases hy
    cases k with
    | zero => exact .inr (.inr ⟨_, rfl, rfl⟩)
    | succ k => exact .inl (.inr (.inr ⟨_, rfl, rfl⟩))
  · cases hx
    cases hy
    exact h
  · cases hx
end L2
end
section
set_option maxRecDepth 100000
set_option maxHeartbeats 4000000
namespace K27
open PySem PySem.Spec PyProof.Rows L2
def nearB (d : Int) (s : Int × Int) : Bool := decide (s.1 < d) && decide (d ≤ s.2)
theorem near_far {d : Int} {s : Int × Int} : (!nearB d s) = farB d s := by
  unfold nearB farB
  by_cases h1 : s.1 < d <;> by_cases h2 : d ≤ s.2
  · simp [h1, h2, Int.not_le.mpr h1, Int.not_lt.mpr h2]
  · simp [h1, h2, Int.not_le.mp h2]
  · simp [h1, h2, Int.not_lt.mp h1]
  · simp [h1, h2, Int.not_lt.mp h1]
def undS (ws : List (Int × Int)) (ks : List (Int × Int)) (Ws : List (List (List (Int × Int)))) : List (Int × Int) := ks.filter fun c => Ws.all fun W => !isT ws W c.1.toNat c.2.toNat
section
variable {P : Program} {w : World} {K : PySem.W.Frag} {mg : Str → Option Value} {base : Heap}
def spCovered : Sp := fun vs H Q _ => ∃ (T : Nat) (x : V) (c : Int × Int) (l : Addr) (ss : List V) (lot : List (Int × Int)), vs = [.int T, x, .ref l] ∧ PairT H x c ∧ H l = some (.lst ss) ∧ Paired (PairT H) ss lot ∧ lot.length ≤ 1000 ∧ T ≤ 24 ∧ 1 ≤ c.1 ∧ c.1 ≤ c.2 ∧ c.2 ≤ 1000 ∧ ∀ H', Same H H' → Q (.bl (decide (freeD T lot c = 0))) H'
theorem ok__law_covered (T : Txt w K mg) : Ok P w K mg base CX0 1 "_law_covered" ["days", "span", "lot"] spCovered := by
  refine Ok.def0 (f__law_covered T) (fun _ _ _ _ _ _ us hl => match us, hl with | [_, _, _], _ => rfl) sc__law_covered (fun vs H Q E h => ?_) (fun f cdv A outer s H vs Q E hr h => ?_)
  · obtain ⟨TT, x, c, l, ss, lot, rfl, _⟩ := h
    rfl
  · obtain ⟨TT, x, c, l, ss, lot, rfl, hx, hl, hP, hll, hT, h1, h2, h3, k⟩ := h
    refine ⟨_, (pss_cons (ps_if (pt_cmpR op_gt (pe_ix (ix_seqK (K := K) rfl) (pv 1) pe_int (fun _ _ => rfl)) (pv 0) (nomark _)) (pss_one (ps_ret pe_bl)) pss_nil)
      (pss_cons (ps_setLc (i := 4) (own := [("stretch", 3)]) rfl sc__law_covered.nd rfl rfl (sw_true rfl rfl rfl (by decide +kernel)) (pi_listK (K := K) rfl (pv 2)) (blkOk_by (N := ["days", "span", "lot", "stretch", "others", "day"]) (sc := defScope s__law_covered) (by decide +kernel)) (fun _ _ _ _ _ => (pg_name (i := 3) sc__law_covered.nd rfl (by first | exact Or.inl rfl | exact Or.inr rfl))) (fun _ _ _ _ _ => pts_one (PW.pt (pw_or (pt_cmpR op_le (pe_ix (ix_seqK (K := K) rfl) (pv 1) pe_int (fun _ _ => rfl)) (pe_ix (ix_seqK (K := K) rfl) (pv 3) pe_int (fun _ _ => rfl)) (nomark _)) (pw_or1 (pt_cmpR op_gt (pe_ix (ix_seqK (K := K) rfl) (pv 1) pe_int (fun _ _ => rfl)) (pe_ix (ix_seqK (K := K) rfl) (pv 3) pe_int (fun _ _ => rfl)) (nomark _)))))) (fun _ _ _ _ _ => (pv 3)))
      (pss_cons (ps_for PassesOwn.never rfl (pi_range2 rfl (n_range T) (pa_cons (pe_ix (ix_seqK (K := K) rfl) (pv 1) pe_int (fun _ _ => rfl)) (pa_cons (pe_op op_add (pe_ix (ix_seqK (K := K) rfl) (pv 1) pe_int (fun _ _ => rfl)) pe_int) pa_nil))) (pg_name (i := 5) sc__law_covered.nd rfl (by first | exact Or.inl rfl | exact Or.inr rfl))
        (pss_one (ps_if (pt_cmpR op_eq (pe_callB (len_seqK (K := K) rfl) rfl (n_len T) (by decide +kernel) (pa_cons (pe_lc (own := [("stretch", 3)]) rfl sc__law_covered.nd (pi_listK (K := K) rfl (pv 4)) (blkOk_by (N := ["days", "span", "lot", "stretch", "others", "day"]) (sc := defScope s__law_covered) (by decide +kernel)) (fun _ _ _ _ _ => (pg_name (i := 3) sc__law_covered.nd rfl (by first | exact Or.inl rfl | exact Or.inr rfl))) (fun _ _ _ _ _ => pts_one (pt_chain op_lt op_le (pe_ix (ix_seqK (K := K) rfl) (pv 3) pe_int (fun _ _ => rfl)) (pv 5) (pe_ix (ix_seqK (K := K) rfl) (pv 3) pe_int (fun _ _ => rfl)))) (fun _ _ _ _ _ => (pv 3))) pa_nil)) pe_int (nomark _)) (pss_one (ps_ret pe_bl)) pss_nil)))
      (pss_one (ps_ret pe_bl))))), ?_⟩
    have hsl : ss.length = lot.length := Paired.length hP
    refine ⟨_, rfl, hx.i1 ⟨_, rfl, _, _, rfl, rfl, _, rfl, ite2 (fun z => ?_) (fun z => ?_)⟩⟩
    · have z := of_decide_eq_true z
      have : freeD TT lot c ≠ 0 := fun y => by
        have := (freeD_zero (T := TT) (lot := lot) h1).mp y none (mem_optO_none.mpr z)
        cases this
      rw [decide_eq_false this] at k
      exact k _ (Same.refl _)
    have z : c.2 ≤ (TT : Int) := Int.not_lt.mp fun y => z (decide_eq_true y)
    refine ⟨_, rfl, l, rfl, ⟨_, SqL.of hl⟩, fun D hD => lc_acc (K := K) (a := l) (xs := ss) hD (SqL.of hl) (by omega) (fun j acc H' => Paired (PairT H') acc ((lot.take j).filter (outB c))) (fun _ _ => .nil) ?_ ?_⟩
    · rintro j y acc H2 N N0 hy s2 hacc hI hN hN0
      obtain ⟨s, hs, hr⟩ := paired_get hP hy
      have hr := hr.same s2
      have hx2 := hx.same s2
      refine gnE ⟨rfl, ?_⟩
      have st := flt_take2 (p := outB c) hs _ rfl
      refine EvT.run (b := outB c s) ?_ fun H3 s3 => ?_
      · rw [show outB c s = (decide (c.1 ≤ s.1) || decide (s.2 < c.2)) from rfl]
        exact EvT.or (EvT.test (Ev.le (Ev.p0 (Ev.var rfl) hx2) (Ev.p0 (Ev.var rfl) hr))) fun _ => EvT.test (Ev.gt (Ev.p1 (Ev.var rfl) hx2) (Ev.p1 (Ev.var rfl) hr))
      cases q : outB c s with
      | false =>
        rw [q] at st
        have st := st.trans (List.append_nil _)
        refine hN0 _ s3 ?_
        rw [st]
        exact Paired.mapP hI fun _ _ z => z.same s3
      | true =>
        rw [q] at st
        refine ⟨_, rfl, hN _ _ s3 fun H5 b5 _ => ?_⟩
        rw [st]
        have hacc3 := s3 _ _ hacc
        exact Paired.snoc (Paired.mapP hI fun _ _ z => (z.same s3).but hacc3 b5) ((hr.same s3).but hacc3 b5)
    · rintro acc H2 s2 hacc hal hI
      rw [hsl, List.take_length] at hI
      have hx2 := hx.same s2
      have hfl : (lot.filter (outB c)).length = acc.length := (Paired.length hI).symm
      refine ⟨_, rfl, hx2.i0 ⟨_, rfl, hx2.i1 ⟨_, _, rfl, rfl, c.1, c.2 + 1, rfl, ?_, ?_⟩⟩⟩
      · omega
      refine for_upto (lo := c.1) (L := (c.2 + 1 - c.1).toNat) rfl (fun i σ H' => ∃ v5, σ = [some (.int TT), some x, some (.ref l), none, some (.ref D), v5] ∧ Same H2 H' ∧ ∀ j, j < i → okLot lot c (c.1 + (j : Int)) = false) ⟨_, rfl, Same.refl _, fun j h => by omega⟩ ?_ ?_
      · rintro i σ H3 hi ⟨v5, rfl, s3, hno⟩
        refine gnE ?_
        refine ⟨_, rfl, D, rfl, ⟨_, SqL.of (s3 _ _ hacc)⟩, fun B hB => lc_count (K := K) (a := D) (xs := acc) (R := PairT) (ds := lot.filter (outB c)) (p := nearB (c.1 + (i : Int))) hB (s3 _ _ hacc) (Paired.mapP hI fun _ _ z => z.same s3) (by omega) ?_ ?_⟩
        · intro j y s H4 N N0 hy hs hr s4 hN hN0
          have hr := hr.same s4
          refine gnE ⟨rfl, ?_⟩
          refine EvT.run (b := nearB (c.1 + (i : Int)) s) ?_ fun H5 s5 => ?_
          · rw [show nearB (c.1 + (i : Int)) s = (decide (s.1 < c.1 + (i : Int)) && decide (c.1 + (i : Int) ≤ s.2)) from rfl]
            exact EvT.test (Ev.ltle (Ev.p0 (Ev.var rfl) hr) (Ev.var rfl) (Ev.p1 (Ev.var rfl) hr))
          cases q : nearB (c.1 + (i : Int)) s with
          | false => exact hN0 _ s5 q
          | true => exact ⟨_, rfl, hN _ s5 q⟩
        · intro bs H4 s4 hbs hbl _
          have eok : ((lot.filter (outB c)).filter (nearB (c.1 + (i : Int)))).length = 0 ↔ okLot lot c (c.1 + (i : Int)) = true := by
            rw [filter_len0, okLot_flt]
            have : (fun x => !nearB (c.1 + (i : Int)) x) = farB (c.1 + (i : Int)) := funext fun s => near_far
            rw [this]
          refine ⟨_, _, rfl, .inl (SqL.of hbs), rfl, _, rfl, ite2 (fun q => ?_) (fun q => ?_)⟩
          · have q := of_decide_eq_true q
            have q : bs.length = 0 := by
              have := V.int.inj q
              omega
            rw [hbl] at q
            have ho := eok.mp q
            have hf : freeD TT lot c = c.1 + (i : Int) := freeD_is (by omega) ho hno
            rw [decide_eq_false (by rw [hf]; omega)] at k
            exact k _ (s2.trans (s3.trans s4))
          · have q : bs.length ≠ 0 := fun y => q (decide_eq_true (by rw [y]; rfl))
            refine ⟨_, rfl, s3.trans s4, fun j hj => ?_⟩
            by_cases e : j = i
            · rw [e]
              rw [hbl] at q
              cases qq : okLot lot c (c.1 + (i : Int)) with
              | false => rfl
              | true => exact absurd (eok.mpr qq) q
            · exact hno j (by omega)
      · rintro σ H3 ⟨v5, rfl, s3, hno⟩
        have : freeD TT lot c = 0 := by
          rw [freeD_no (T := TT) (lot := lot) (c := c) fun j hj => hno j (by omega), if_neg (by omega)]
        rw [decide_eq_true this] at k
        exact k _ (s2.trans s3)
def spFirstCov : Sp := fun vs H Q _ => ∃ (T : Nat) (sl l : Addr) (xs : List V) (ws : List (Int × Int)) (ss : List V) (lot : List (Int × Int)), vs = [.int T, .ref sl, .ref l] ∧ H sl = some (.lst xs) ∧ Paired (PairT H) xs ws ∧ H l = some (.lst ss) ∧ Paired (PairT H) ss lot ∧ lot.length ≤ 1000 ∧ T ≤ 24 ∧ ws.length ≤ 40 ∧ (∀ c ∈ ws, 1 ≤ c.1 ∧ c.1 ≤ c.2 ∧ c.2 ≤ 1000) ∧
  (∀ (n : Nat) (c : Int × Int) H', ws[n]? = some c → freeD T lot c = 0 → (∀ i c', i < n → ws[i]? = some c' → freeD T lot c' ≠ 0) → Same H H' → Q (.int ((n : Int) + 1)) H') ∧ ((∀ c ∈ ws, freeD T lot c ≠ 0) → ∀ H', Same H H' → Q (.int 0) H')
theorem ok__law_first_covered (T : Txt w K mg) : Ok P w K mg base CX0 2 "_law_first_covered" ["days", "spans", "lot"] spFirstCov := by
  refine Ok.def0 (f__law_first_covered T) (fun _ _ _ _ _ _ us hl => match us, hl with | [_, _, _], _ => rfl) sc__law_first_covered (fun vs H Q E h => ?_) (fun f cdv A outer s H vs Q E hr h => ?_)
  · obtain ⟨TT, sl, l, xs, ws, ss, lot, rfl, _⟩ := h
    rfl
  · obtain ⟨TT, sl, l, xs, ws, ss, lot, rfl, hsl, hW, hl, hP, hll, hT, hw, hg, kb, kg⟩ := h
    refine ⟨_, (pss_cons (ps_for PassesOwn.never rfl (pi_range1 rfl (n_range T) (pa_cons (pe_callB (len_seqK (K := K) rfl) rfl (n_len T) (by decide +kernel) (pa_cons (pv 1) pa_nil)) pa_nil)) (pg_name (i := 3) sc__law_first_covered.nd rfl (by first | exact Or.inl rfl | exact Or.inr rfl))
        (pss_one (ps_if (pt_val (pe_ok (ok__law_covered T) (hr.mono (by first | decide | omega)) rfl pass0 (pa_cons (pv 0) (pa_cons (pe_ix (ix_listK (K := K) rfl) (pv 1) (pv 3) (fun _ _ => rfl)) (pa_cons (pv 2) pa_nil))))) (pss_one (ps_ret (pe_op op_add (pv 3) pe_int))) pss_nil)))
      (pss_one (ps_ret pe_int))), ?_⟩
    have hxl : xs.length = ws.length := Paired.length hW
    refine ⟨_, rfl, _, _, rfl, .inl (SqL.of hsl), _, rfl, by omega, by omega, for_upto (lo := 0) (L := ws.length) (by omega) (fun i σ H' => ∃ v3, σ = [some (.int TT), some (.ref sl), some (.ref l), v3] ∧ Same H H' ∧ ∀ j c, j < i → ws[j]? = some c → freeD TT lot c ≠ 0) ⟨_, rfl, Same.refl _, fun j c h => by omega⟩ ?_ ?_⟩
    · rintro i σ H3 hi ⟨v3, rfl, e3, hno⟩
      have z1 : (0 : Int) + (i : Int) = (i : Int) := by omega
      rw [z1]
      refine gnE ?_
      obtain ⟨x, hx⟩ : ∃ x, xs[i]? = some x := ⟨xs[i]'(by omega), List.getElem?_eq_getElem _⟩
      obtain ⟨c, hc, hr⟩ := paired_get hW hx
      obtain ⟨c1, c2, c3⟩ := hg c (List.mem_of_getElem? hc)
      refine ⟨_, rfl, _, rfl, _, rfl, sl, xs, _, x, rfl, rfl, SqL.of (e3 _ _ hsl), at_of rfl hx, _, rfl, TT, x, c, l, ss, lot, rfl, hr.same e3, e3 _ _ hl, Paired.mapP hP fun _ _ z => z.same e3, hll, hT, c1, c2, c3, fun H4 s4 => ⟨_, rfl, ite2 (fun z => ?_) (fun z => ?_)⟩⟩
      · exact ⟨_, rfl, _, _, rfl, rfl, kb i c H4 hc (of_decide_eq_true z) hno (e3.trans s4)⟩
      · have z : freeD TT lot c ≠ 0 := fun y => z (decide_eq_true y)
        refine ⟨_, rfl, e3.trans s4, fun j c' hj hc' => ?_⟩
        by_cases e : j = i
        · rw [e, hc] at hc'
          cases hc'
          exact z
        · exact hno j c' (by omega) hc'
    · rintro σ H3 ⟨v3, rfl, e3, hno⟩
      exact kg (fun c hc => by
        obtain ⟨j, hj⟩ := List.getElem?_of_mem hc
        exact hno j c (List.getElem?_eq_some_iff.mp hj).1 hj) H3 e3
def spUndS : Sp := fun vs H Q _ => ∃ (T : Nat) (sl kl wl : Addr) (xs ksv ys : List V) (ws ks : List (Int × Int)) (Ws : List (List (List (Int × Int)))), vs = [.ref sl, .ref kl, .ref wl] ∧ H sl = some (.lst xs) ∧ Paired (PairT H) xs ws ∧ H kl = some (.lst ksv) ∧ Paired (PairT H) ksv ks ∧ H wl = some (.lst ys) ∧ Paired (WeaV H) ys Ws ∧ Ws.length ≤ 90000 ∧ T ≤ 24 ∧
  (∀ c ∈ ks, ∃ a b : Nat, a < b ∧ b ≤ T ∧ c = ((a : Int), (b : Int))) ∧ (∀ W ∈ Ws, wrongOf (ws.map canR) T W = -1) ∧ (undS ws ks Ws = [] → ∀ H', Same H H' → Q .non H') ∧ ∀ c r x H', undS ws ks Ws = c :: r → Same H H' → PairT H' x c → Q x H'
theorem ok__law_undecided (T : Txt w K mg) : Ok P w K mg base CX0 2 "_law_undecided" ["spans", "keys", "weathers"] spUndS := by
  refine Ok.def0 (f__law_undecided T) (fun _ _ _ _ _ _ us hl => match us, hl with | [_, _, _], _ => rfl) sc__law_undecided (fun vs H Q E h => ?_) (fun f cdv A outer s H vs Q E hr h => ?_)
  · obtain ⟨TT, sl, kl, wl, xs, ksv, ys, ws, ks, Ws, rfl, _⟩ := h
    rfl
  · obtain ⟨TT, sl, kl, wl, xs, ksv, ys, ws, ks, Ws, rfl, hsl, hX, hkl, hK, hwl, hY, hz, hT, hks, hWs, k0, k1⟩ := h
    refine ⟨_, (pss_cons (ps_for PassesOwn.never rfl (pi_listK (K := K) rfl (pv 1)) (pg_tupK (K := K) (n := 2) rfl rfl (pgs_cons (pg_name (i := 3) sc__law_undecided.nd rfl (by first | exact Or.inl rfl | exact Or.inr rfl)) (pgs_cons (pg_name (i := 4) sc__law_undecided.nd rfl (by first | exact Or.inl rfl | exact Or.inr rfl)) pgs_nil)))
        (pss_one (ps_if (pt_cmpR op_eq (pe_callB (len_seqK (K := K) rfl) rfl (n_len T) (by decide +kernel) (pa_cons (pe_lc (own := [("weather", 5)]) rfl sc__law_undecided.nd (pi_listK (K := K) rfl (pv 2)) (blkOk_by (N := ["spans", "keys", "weathers", "a", "b", "weather"]) (sc := defScope s__law_undecided) (by decide +kernel)) (fun _ _ _ _ _ => (pg_name (i := 5) sc__law_undecided.nd rfl (by first | exact Or.inl rfl | exact Or.inr rfl))) (fun _ _ _ _ _ => pts_one (pt_val (pe_ok (ok__law_is_tight T) (hr.mono (by first | decide | omega)) rfl pass0 (pa_cons (pv 0) (pa_cons (pv 5) (pa_cons (pv 3) (pa_cons (pv 4) pa_nil))))))) (fun _ _ _ _ _ => (pv 5))) pa_nil)) pe_int (nomark _)) (pss_one (ps_ret (pe_tup (pa_cons (pv 3) (pa_cons (pv 4) pa_nil))))) pss_nil)))
      (pss_one (ps_ret pe_non))), ?_⟩
    have hyl : ys.length = Ws.length := Paired.length hY
    refine ⟨_, rfl, kl, rfl, ⟨_, SqL.of hkl⟩, for_list (K := K) (a := kl) (xs := ksv) (fun i σ H' => ∃ v3 v4, σ = [some (.ref sl), some (.ref kl), some (.ref wl), v3, v4, none] ∧ Same H H' ∧ undS ws (ks.take i) Ws = []) ⟨_, _, rfl, Same.refl _, rfl⟩ (fun _ _ _ _ ⟨_, _, _, e, _⟩ => SqL.of (e _ _ hkl)) ?_ ?_⟩
    · rintro i x σ H2 hx ⟨v3, v4, rfl, e2, hno⟩
      obtain ⟨c, hc, hr⟩ := paired_get hK hx
      have hr := hr.same e2
      obtain ⟨a, b, hab, hb, rfl⟩ := hks c (List.mem_of_getElem? hc)
      refine hr.un rfl ?_
      refine ⟨_, rfl, wl, rfl, ⟨_, SqL.of (e2 _ _ hwl)⟩, fun B hB => lc_count (K := K) (a := wl) (xs := ys) (R := WeaV) (ds := Ws) (p := fun W => isT ws W a b) hB (e2 _ _ hwl) (Paired.mapP hY fun _ _ z => z.same e2) (by omega) ?_ ?_⟩
      · intro j y W H4 N N0 hy hW hwy s4 hN hN0
        obtain ⟨aw, rfl, hWt⟩ := hwy
        have e4 := e2.trans s4
        obtain ⟨hWl, hfb⟩ := right_len (hWs W (List.mem_of_getElem? hW))
        refine gnE ⟨rfl, ?_⟩
        refine ⟨_, rfl, _, rfl, _, rfl, _, rfl, sl, aw, xs, ws, W, a, b, rfl, e4 _ _ hsl, Paired.mapP hX fun _ _ z => z.same e4, hWt.same s4, by omega, by omega, by omega, fun rep hrep c' hc' => ?_, fun H5 s5 => ⟨_, rfl, ?_⟩⟩
        · obtain ⟨q, hq⟩ := List.getElem?_of_mem hrep
          have := (first_ok (Int.le_refl 1) hfb List.nodup_nil).2.1 q rep hq c' hc'
          rw [List.length_map] at this
          exact ⟨this.1, this.2.1⟩
        · cases q : isT ws W a b with
          | false => exact hN0 _ s5 q
          | true => exact ⟨_, rfl, hN _ s5 q⟩
      · intro bs H4 s4 hbs hbl _
        have ein : (Ws.filter fun W => isT ws W a b).length = 0 ↔ (Ws.all fun W => !isT ws W a b) = true := filter_len0
        refine ⟨_, _, rfl, .inl (SqL.of hbs), rfl, _, rfl, ite2 (fun q => ?_) (fun q => ?_)⟩
        · have q := V.int.inj (of_decide_eq_true q)
          have q : bs.length = 0 := by omega
          rw [hbl] at q
          have hall := ein.mp q
          have hU : undS ws ks Ws = ((a : Int), (b : Int)) :: undS ws (ks.drop (i + 1)) Ws := by
            have e1 : ks = ks.take i ++ ks.drop i := (List.take_append_drop i ks).symm
            unfold undS at hno ⊢
            rw [e1, List.filter_append, hno, drop_get hc, List.filter_cons]
            show (if (Ws.all fun W => !isT ws W a b) = true then _ else _) = _
            rw [if_pos hall]
            have : (List.take i ks ++ ((a : Int), (b : Int)) :: List.drop (i + 1) ks).drop (i + 1) = ks.drop (i + 1) := by
              rw [← drop_get hc, ← e1]
            rw [this]
          refine ⟨_, rfl, _, rfl, (by show 2 ≤ sizeLine; decide), fun t ht => ?_⟩
          obtain ⟨s5, g5⟩ := new2 (.tup [.int (a : Int), .int (b : Int)]) ht
          exact k1 _ _ (.ref t) _ hU (e2.trans (s4.trans s5)) ⟨t, rfl, g5⟩
        · have q : ¬ bs.length = 0 := fun y => q (decide_eq_true (by rw [y]; rfl))
          rw [hbl] at q
          refine ⟨_, _, rfl, e2.trans s4, ?_⟩
          unfold undS at hno ⊢
          rw [take_get hc, List.filter_append, hno, List.filter_cons]
          show [] ++ (if (Ws.all fun W => !isT ws W a b) = true then _ else _) = _
          rw [if_neg (fun y => q (ein.mpr y))]
          rfl
    · rintro σ H2 ⟨v3, v4, rfl, e2, hno⟩
      rw [Paired.length hK, List.take_length] at hno
      exact k0 hno H2 e2
end
end K27
end
section
set_option maxRecDepth 100000
set_option maxHeartbeats 4000000
namespace K27
open PySem PySem.Spec PyProof.Rows L2
section
variable {P : Program} {w : World} {K : PySem.W.Frag} {mg : Str → Option Value} {base : Heap}
def spMix (K : PySem.W.Frag) : Sp := fun vs H Q _ => ∃ (sa a : Addr) (xs : List V), vs = [.ref sa, .ref a] ∧ SqL K H a xs ∧ xs.length ≤ 90000 ∧ a ≠ sa ∧ Stk H sa ∧ ∀ (l : Addr) H' (ys : List V), H l = none → But sa H H' → Stk H' sa → H' l = some (.lst ys) → (∀ y ∈ ys, y ∈ xs) → ys.length = xs.length → Q (.ref l) H'
theorem ok__law_mix (T : Txt w K mg) : Ok P w K mg base CX0 2 "_law_mix" ["stock", "things"] (spMix K) := by
  refine Ok.def0 (f__law_mix T) (fun _ _ _ _ _ _ us hl => match us, hl with | [_, _], _ => rfl) sc__law_mix (fun vs H Q E h => ?_) (fun f cdv A outer s H vs Q E hr h => ?_)
  · obtain ⟨sa, a, xs, rfl, _⟩ := h
    rfl
  · obtain ⟨sa, a, xs, rfl, ha, hl, hasa, hs, k⟩ := h
    refine ⟨_, (pss_cons (ps_set (i := 2) sc__law_mix.nd rfl (by first | exact Or.inl rfl | exact Or.inr rfl) (pe_callTy (list_ofK (K := K) rfl) rfl (n_list T) (by decide +kernel) (pa_cons (pv 1) pa_nil)))
      (pss_cons (ps_set (i := 3) sc__law_mix.nd rfl (by first | exact Or.inl rfl | exact Or.inr rfl) (pe_lst pa_nil))
      (pss_cons (ps_for PassesOwn.never rfl (pi_range1 rfl (n_range T) (pa_cons (pe_callB (len_seqK (K := K) rfl) rfl (n_len T) (by decide +kernel) (pa_cons (pv 1) pa_nil)) pa_nil)) (pg_name (i := 4) sc__law_mix.nd rfl (by first | exact Or.inl rfl | exact Or.inr rfl))
        (pss_one (ps_expr (pe_bm PySem.F.plainAttrs_list PySem.F.slot_list_append PySem.F.type_list_append mt_append (pv 3) (pa_cons (pe_bm PySem.F.plainAttrs_list PySem.F.slot_list_pop PySem.F.type_list_pop mt_popAt (pv 2) (pa_cons (pe_ok (ok__law_draw T) (hr.mono (by first | decide | omega)) rfl pass0 (pa_cons (pv 0) (pa_cons (pe_callB (len_seqK (K := K) rfl) rfl (n_len T) (by decide +kernel) (pa_cons (pv 2) pa_nil)) pa_nil))) pa_nil)) pa_nil)))))
      (pss_one (ps_ret (pv 3)))))), ?_⟩
    refine ⟨_, rfl, a, xs, rfl, .inl ha, fun p hp => ?_⟩
    have e1 : Same H (upd H p (.lst xs)) := same_new hp
    have psa : p ≠ sa := fun z => hs.ne (z ▸ hp)
    refine ⟨(by show 0 ≤ sizeLine; decide), fun q hq => ?_⟩
    have e2 := e1.trans (same_new (o := .lst []) hq)
    have qp : q ≠ p := fun z => by rw [z, upd_same] at hq; cases hq
    have hq0 : H q = none := e1.free hq
    have qsa : q ≠ sa := fun z => hs.ne (z ▸ hq0)
    refine ⟨_, rfl, _, _, rfl, .inl (e2.seq ha), _, rfl, by omega, by omega,
      for_upto (lo := 0) (L := xs.length) (by omega) (fun i σ H' => ∃ v4 rest acc, σ = [some (.ref sa), some (.ref a), some (.ref p), some (.ref q), v4] ∧ But sa H H' ∧ Stk H' sa ∧ H' p = some (.lst rest) ∧ H' q = some (.lst acc) ∧ acc.length = i ∧ rest.length + i = xs.length ∧ (∀ y ∈ rest, y ∈ xs) ∧ (∀ y ∈ acc, y ∈ xs)) ⟨_, xs, [], rfl, But.of e2, hs.same e2, by rw [upd_ne (fun z => qp z.symm)]; exact upd_same, upd_same, rfl, rfl, (fun y hy => hy), (fun y hy => by cases hy)⟩ ?_ ?_⟩
    · rintro i σ H' hi ⟨v4, rest, acc, rfl, b, hst, hp1, hq1, hal, hrl, hr1, hr2⟩
      refine ⟨_, rfl, .inl ⟨rfl, _, SqL.of hq1⟩, _, rfl, .inl ⟨rfl, _, SqL.of hp1⟩, _, rfl, _, rfl, _, _, rfl, .inl (SqL.of hp1), sa, (rest.length : Int), rfl, by omega, by omega, hst, fun r x y z r0 r1 => ?_⟩
      have hp2 : upd H' sa (stk x y z) p = some (.lst rest) := by rw [upd_ne psa]; exact hp1
      have hq2 : upd H' sa (stk x y z) q = some (.lst acc) := by rw [upd_ne qsa]; exact hq1
      obtain ⟨v, hv⟩ : ∃ v, rest[r.toNat]? = some v := ⟨rest[r.toNat]'(by omega), List.getElem?_eq_getElem (by omega)⟩
      refine ⟨p, rest, r, r.toNat, v, rfl, rfl, hp2, by omega, by omega, ?_, hv, ?_⟩
      · exact seqIndex_of r0 r1
      refine ⟨q, acc, v, rfl, rfl, by rw [upd_ne qp]; exact hq2, line_lt (by omega), ?_⟩
      refine ⟨_, rest.eraseIdx r.toNat, acc ++ [v], rfl, ?_, ?_, ?_, upd_same, by rw [List.length_append, hal]; rfl, ?_, ?_, ?_⟩
      · exact (b.upd.mut hp).mut hq0
      · exact (stk_upd.but psa.symm).but qsa.symm
      · rw [upd_ne (fun z => qp z.symm)]; exact upd_same
      · rw [List.length_eraseIdx, if_pos (by omega)]; omega
      · exact fun y hy => hr1 y (List.mem_of_mem_eraseIdx hy)
      · intro y hy
        rcases List.mem_append.mp hy with hy | hy
        · exact hr2 y hy
        · rw [List.mem_singleton.mp hy]; exact hr1 _ (List.mem_of_getElem? hv)
    · rintro σ H' ⟨v4, rest, acc, rfl, b, hst, hp1, hq1, hal, hrl, hr1, hr2⟩
      exact ⟨_, rfl, k q H' acc hq0 b hst hq1 hr2 hal⟩
def spWhole : Sp := fun vs H Q _ => ∃ n, vs = [.int n] ∧ Q (.bl true) H
theorem ok__law_whole (T : Txt w K mg) : Ok P w K mg base CX0 1 "_law_whole" ["thing"] spWhole := by
  refine Ok.def0 (f__law_whole T) (fun _ _ _ _ _ _ us hl => match us, hl with | [_], _ => rfl) sc__law_whole (fun vs H Q E h => ?_) (fun f cdv A outer s H vs Q E hr h => ?_)
  · obtain ⟨n, rfl, _⟩ := h
    rfl
  · obtain ⟨n, rfl, k⟩ := h
    refine ⟨_, (pss_one (ps_ret (pe_and (pe_callB (isiK (K := K) rfl) rfl (n_isinstance T) (by decide +kernel) (pa_cons (pv 0) (pa_cons (pe_bltn (v := .ty "int") (u := .type "int") rfl (n_int T) (by decide +kernel) rfl) pa_nil))) (pe_one (pe_not (pe_callB (isiK (K := K) rfl) rfl (n_isinstance T) (by decide +kernel) (pa_cons (pv 0) (pa_cons (pe_bltn (v := .ty "bool") (u := .type "bool") rfl (n_bool T) (by decide +kernel) rfl) pa_nil)))))))), ?_⟩
    exact ⟨_, rfl, ⟨_, _, _, _, _, rfl, .ty _, tx_int _, k_ii, _, rfl, iteT ⟨_, rfl, ⟨_, _, _, _, _, rfl, .ty _, tx_int _, k_ib, _, rfl, k⟩⟩⟩⟩
def spAreW : Sp := fun vs H Q _ => ∃ (T : Nat) (rl wl : Addr) (xs ys : List V) (rs : List Q4) (Ws : List (List (List (Int × Int)))), vs = [.int T, .ref rl, .ref wl] ∧ H rl = some (.lst xs) ∧ Paired (QuadT H) xs rs ∧ H wl = some (.lst ys) ∧ Paired (WeaV H) ys Ws ∧ T ≤ 24 ∧ rs.length ≤ 40 ∧ (∀ r ∈ rs, GoodR r) ∧ (∀ W ∈ Ws, W.length ≤ 100 ∧ total W ≤ 2000 ∧ wrongOf rs T W = -1) ∧ ∀ H', Same H H' → Q (.bl true) H'
theorem ok__law_are_weathers (T : Txt w K mg) : Ok P w K mg base CX0 2 "_law_are_weathers" ["days", "rains", "weathers"] spAreW := by
  refine Ok.def0 (f__law_are_weathers T) (fun _ _ _ _ _ _ us hl => match us, hl with | [_, _, _], _ => rfl) sc__law_are_weathers (fun vs H Q E h => ?_) (fun f cdv A outer s H vs Q E hr h => ?_)
  · obtain ⟨TT, rl, wl, xs, ys, rs, Ws, rfl, _⟩ := h
    rfl
  · obtain ⟨TT, rl, wl, xs, ys, rs, Ws, rfl, hrl, hX, hwl, hY, hT, hrs, hg, hWs, k⟩ := h
    refine ⟨_, (pss_cons (ps_if (pt_not (pt_val (pe_callB (isiK (K := K) rfl) rfl (n_isinstance T) (by decide +kernel) (pa_cons (pv 2) (pa_cons (pe_bltn (v := .ty "list") (u := .type "list") rfl (n_list T) (by decide +kernel) rfl) pa_nil))))) (pss_one (ps_ret pe_bl)) pss_nil)
      (pss_cons (ps_for PassesOwn.never rfl (pi_listK (K := K) rfl (pv 2)) (pg_name (i := 3) sc__law_are_weathers.nd rfl (by first | exact Or.inl rfl | exact Or.inr rfl))
        (pss_cons (ps_if (pt_not (pt_val (pe_callB (isiK (K := K) rfl) rfl (n_isinstance T) (by decide +kernel) (pa_cons (pv 3) (pa_cons (pe_bltn (v := .ty "list") (u := .type "list") rfl (n_list T) (by decide +kernel) rfl) pa_nil))))) (pss_one (ps_ret pe_bl)) pss_nil)
      (pss_cons (ps_for PassesOwn.never rfl (pi_listK (K := K) rfl (pv 3)) (pg_name (i := 4) sc__law_are_weathers.nd rfl (by first | exact Or.inl rfl | exact Or.inr rfl))
        (pss_cons (ps_if (pt_not (pt_val (pe_callB (isiK (K := K) rfl) rfl (n_isinstance T) (by decide +kernel) (pa_cons (pv 4) (pa_cons (pe_bltn (v := .ty "list") (u := .type "list") rfl (n_list T) (by decide +kernel) rfl) pa_nil))))) (pss_one (ps_ret pe_bl)) pss_nil)
      (pss_one (ps_for PassesOwn.never rfl (pi_listK (K := K) rfl (pv 4)) (pg_name (i := 5) sc__law_are_weathers.nd rfl (by first | exact Or.inl rfl | exact Or.inr rfl))
        (pss_cons (ps_if (PW.pt (pw_or (pt_not (pt_val (pe_callB (isiK (K := K) rfl) rfl (n_isinstance T) (by decide +kernel) (pa_cons (pv 5) (pa_cons (pe_bltn (v := .ty "tuple") (u := .type "tuple") rfl (n_tuple T) (by decide +kernel) rfl) pa_nil))))) (pw_or (pt_cmpR op_ne (pe_callB (len_seqK (K := K) rfl) rfl (n_len T) (by decide +kernel) (pa_cons (pv 5) pa_nil)) pe_int (nomark _)) (pw_or (pt_not (pt_val (pe_ok (ok__law_whole T) (hr.mono (by first | decide | omega)) rfl pass0 (pa_cons (pe_ix (ix_seqK (K := K) rfl) (pv 5) pe_int (fun _ _ => rfl)) pa_nil)))) (pw_or1 (pt_not (pt_val (pe_ok (ok__law_whole T) (hr.mono (by first | decide | omega)) rfl pass0 (pa_cons (pe_ix (ix_seqK (K := K) rfl) (pv 5) pe_int (fun _ _ => rfl)) pa_nil))))))))) (pss_one (ps_ret pe_bl)) pss_nil)
      (pss_one (ps_if (pt_cmpR op_lt (pe_ix (ix_seqK (K := K) rfl) (pv 5) pe_int (fun _ _ => rfl)) pe_int (nomark _)) (pss_one (ps_ret pe_bl)) pss_nil)))))))
      (pss_one (ps_if (pt_cmpR op_ne (pe_ok (ok__law_first_wrong T) (hr.mono (by first | decide | omega)) rfl pass0 (pa_cons (pv 0) (pa_cons (pv 1) (pa_cons (pv 3) pa_nil)))) (pe_un un_neg pe_int) (nomark _)) (pss_one (ps_ret pe_bl)) pss_nil)))))
      (pss_one (ps_ret pe_bl)))), ?_⟩
    refine ⟨_, rfl, ⟨_, _, _, _, _, rfl, .ty _, tx_lst hwl, k_ll, _, rfl, ?_⟩⟩
    refine ⟨_, rfl, wl, rfl, ⟨_, SqL.of hwl⟩, for_list (K := K) (a := wl) (xs := ys) (fun i σ H' => ∃ v3 v4 v5, σ = [some (.int TT), some (.ref rl), some (.ref wl), v3, v4, v5] ∧ Same H H') ⟨_, _, _, rfl, Same.refl _⟩ (fun _ _ _ _ ⟨_, _, _, _, e⟩ => SqL.of (e _ _ hwl)) ?_ ?_⟩
    · rintro i x σ H2 hx ⟨v3, v4, v5, rfl, e2⟩
      obtain ⟨W, hW, a, rfl, hWt⟩ := paired_get hY hx
      obtain ⟨w1, w2, w3⟩ := hWs W (List.mem_of_getElem? hW)
      obtain ⟨zs, z1, z2⟩ := hWt.same e2
      obtain ⟨_, hfb⟩ := right_len w3
      refine gnE ?_
      refine ⟨_, rfl, ⟨_, _, _, _, _, rfl, .ty _, tx_lst z1, k_ll, _, rfl, ?_⟩⟩
      refine ⟨_, rfl, a, rfl, ⟨_, SqL.of z1⟩, for_list (K := K) (a := a) (xs := zs) (fun j σ H' => ∃ v4 v5, σ = [some (.int TT), some (.ref rl), some (.ref wl), some (.ref a), v4, v5] ∧ Same H2 H') ⟨_, _, rfl, Same.refl _⟩ (fun _ _ _ _ ⟨_, _, _, e⟩ => SqL.of (e _ _ z1)) ?_ ?_⟩
      · rintro j y σ H3 hy ⟨v4, v5, rfl, e3⟩
        obtain ⟨rep, hrep, l, us, rfl, u1, u2⟩ := paired_get z2 hy
        have u1 := e3 _ _ u1
        refine gnE ?_
        refine ⟨_, rfl, ⟨_, _, _, _, _, rfl, .ty _, tx_lst u1, k_ll, _, rfl, ?_⟩⟩
        refine ⟨_, rfl, l, rfl, ⟨_, SqL.of u1⟩, for_list (K := K) (a := l) (xs := us) (fun m σ H' => ∃ v5, σ = [some (.int TT), some (.ref rl), some (.ref wl), some (.ref a), some (.ref l), v5] ∧ Same H3 H') ⟨_, rfl, Same.refl _⟩ (fun _ _ _ _ ⟨_, _, e⟩ => SqL.of (e _ _ u1)) ?_ ?_⟩
        · rintro m q σ H4 hq ⟨v5, rfl, e4⟩
          obtain ⟨c, hc, hr⟩ := paired_get u2 hq
          have hr := (hr.same e3).same e4
          have hc1 := (first_ok (Int.le_refl 1) hfb List.nodup_nil).2.1 j rep hrep c (List.mem_of_getElem? hc)
          obtain ⟨t, rfl, ht⟩ := id hr
          refine gnE ?_
          refine ⟨_, rfl, ⟨_, _, _, _, _, rfl, .ty _, tx_tup ht, k_tt, _, rfl, ?_⟩⟩
          refine ⟨_, rfl, _, _, rfl, .inr (SqT.of ht), rfl, _, rfl, iteF ?_⟩
          refine ⟨_, rfl, hr.i0 ⟨_, rfl, _, rfl, ?_⟩⟩
          refine ⟨_, rfl, hr.i1 ⟨_, rfl, _, rfl, ?_⟩⟩
          refine ⟨_, rfl, hr.i0 ⟨_, _, rfl, rfl, _, rfl, ?_⟩⟩
          rw [decide_eq_false (by omega)]
          exact ⟨_, rfl, e4⟩
        · rintro σ H4 ⟨v5, rfl, e4⟩
          exact ⟨_, _, rfl, e3.trans e4⟩
      · rintro σ H3 ⟨v4, v5, rfl, e3⟩
        have e23 := e2.trans e3
        refine ⟨_, rfl, _, rfl, _, rfl, TT, rl, a, xs, rs, W, rfl, e23 _ _ hrl, Paired.mapP hX fun _ _ z => z.same e23, hWt.same e23, hT, w1, hrs, hg, w2, fun H4 s4 => ?_⟩
        rw [w3]
        exact ⟨_, rfl, rfl, _, rfl, iteF ⟨_, _, _, rfl, e23.trans s4⟩⟩
    · rintro σ H2 ⟨v3, v4, v5, rfl, e2⟩
      exact k H2 e2
end
end K27
end
section
set_option maxRecDepth 100000
set_option maxHeartbeats 4000000
namespace K27
open PySem PySem.Spec PyProof.Rows L2
section
variable {P : Program} {w : World} {K : PySem.W.Frag} {mg : Str → Option Value} {base : Heap}
theorem mn_gen {k : Nat} {sp0 : Sp} {R : Hp → V → V → Prop} (T : Txt w K mg) (ok__law_matches : Txt w K mg → Ok P w K mg base CX0 k "_law_matches" ["answer", "due"] sp0) (hR : ∀ H v u Q, R H v u → (∀ H', Same H H' → Q (.bl true) H') → sp0 [v, u] H Q E0)
    (hS : ∀ H H' v u, Same H H' → R H v u → R H' v u) : Ok P w K mg base CX0 (k + 1) "_law_matches" ["answer", "due"] (spMt fun H v u => LeafN v u ∨ Comp R H v u) := by
  refine Ok.def0 (f__law_matches T) (fun _ _ _ _ _ _ us hl => match us, hl with | [_, _], _ => rfl) sc__law_matches (fun vs H Q E h => ?_) (fun f cdv A outer s H vs Q E hr h => ?_)
  · obtain ⟨v, u, rfl, _⟩ := h
    rfl
  · obtain ⟨v, u, rfl, h, q⟩ := h
    refine ⟨_, (pss_cons (ps_if (PW.pt (pw_or (pt_cmpR op_isN (pv 1) pe_non (nomark _)) (pw_or1 (pt_cmpR op_isN (pv 0) pe_non (nomark _))))) (pss_one (ps_ret (pe_and (pe_cmpR op_isN (pv 1) pe_non (nomark _)) (pe_one (pe_cmpR op_isN (pv 0) pe_non (nomark _)))))) pss_nil)
      (pss_cons (ps_if (PW.pt (pw_or (pt_val (pe_callB (isiK (K := K) rfl) rfl (n_isinstance T) (by decide +kernel) (pa_cons (pv 1) (pa_cons (pe_bltn (v := .ty "bool") (u := .type "bool") rfl (n_bool T) (by decide +kernel) rfl) pa_nil)))) (pw_or1 (pt_val (pe_callB (isiK (K := K) rfl) rfl (n_isinstance T) (by decide +kernel) (pa_cons (pv 0) (pa_cons (pe_bltn (v := .ty "bool") (u := .type "bool") rfl (n_bool T) (by decide +kernel) rfl) pa_nil))))))) (pss_one (ps_ret (pe_and (pe_callB (isiK (K := K) rfl) rfl (n_isinstance T) (by decide +kernel) (pa_cons (pv 1) (pa_cons (pe_bltn (v := .ty "bool") (u := .type "bool") rfl (n_bool T) (by decide +kernel) rfl) pa_nil))) (pe_and (pe_callB (isiK (K := K) rfl) rfl (n_isinstance T) (by decide +kernel) (pa_cons (pv 0) (pa_cons (pe_bltn (v := .ty "bool") (u := .type "bool") rfl (n_bool T) (by decide +kernel) rfl) pa_nil))) (pe_one (pe_cmpR op_eq (pv 0) (pv 1) (nomark _))))))) pss_nil)
      (pss_cons (ps_if (pt_val (pe_callB (isiK (K := K) rfl) rfl (n_isinstance T) (by decide +kernel) (pa_cons (pv 1) (pa_cons (pe_bltn (v := .ty "int") (u := .type "int") rfl (n_int T) (by decide +kernel) rfl) pa_nil)))) (pss_one (ps_ret (pe_and (pe_callB (isiK (K := K) rfl) rfl (n_isinstance T) (by decide +kernel) (pa_cons (pv 0) (pa_cons (pe_bltn (v := .ty "int") (u := .type "int") rfl (n_int T) (by decide +kernel) rfl) pa_nil))) (pe_one (pe_cmpR op_eq (pv 0) (pv 1) (nomark _)))))) pss_nil)
      (pss_cons (ps_if (pt_val (pe_callB (isiK (K := K) rfl) rfl (n_isinstance T) (by decide +kernel) (pa_cons (pv 1) (pa_cons (pe_bltn (v := .ty "str") (u := .type "str") rfl (n_str T) (by decide +kernel) rfl) pa_nil)))) (pss_one (ps_ret (pe_and (pe_callB (isiK (K := K) rfl) rfl (n_isinstance T) (by decide +kernel) (pa_cons (pv 0) (pa_cons (pe_bltn (v := .ty "str") (u := .type "str") rfl (n_str T) (by decide +kernel) rfl) pa_nil))) (pe_one (pe_cmpR op_eq (pv 0) (pv 1) (nomark _)))))) pss_nil)
      (pss_cons (ps_if (pt_val (pe_callB (isiK (K := K) rfl) rfl (n_isinstance T) (by decide +kernel) (pa_cons (pv 1) (pa_cons (pe_bltn (v := .ty "dict") (u := .type "dict") rfl (n_dict T) (by decide +kernel) rfl) pa_nil)))) (pss_cons (ps_if (PW.pt (pw_or (pt_not (pt_val (pe_callB (isiK (K := K) rfl) rfl (n_isinstance T) (by decide +kernel) (pa_cons (pv 0) (pa_cons (pe_bltn (v := .ty "dict") (u := .type "dict") rfl (n_dict T) (by decide +kernel) rfl) pa_nil))))) (pw_or1 (pt_cmpR op_ne (pe_callB (len_seqK (K := K) rfl) rfl (n_len T) (by decide +kernel) (pa_cons (pv 0) pa_nil)) (pe_callB (len_seqK (K := K) rfl) rfl (n_len T) (by decide +kernel) (pa_cons (pv 1) pa_nil)) (nomark _))))) (pss_one (ps_ret pe_bl)) pss_nil)
      (pss_cons (ps_for PassesOwn.never rfl (pi_listK (K := K) rfl (pe_callTy (list_ofK (K := K) rfl) rfl (n_list T) (by decide +kernel) (pa_cons (pv 1) pa_nil))) (pg_name (i := 2) sc__law_matches.nd rfl (by first | exact Or.inl rfl | exact Or.inr rfl))
        (pss_one (ps_if (PW.pt (pw_or (pt_cmpR op_notIn_seq (pv 2) (pv 0) (by with_unfolding_all rfl)) (pw_or1 (pt_not (pt_val (pe_ok (ok__law_matches T) (hr.mono (by first | decide | omega)) rfl pass0 (pa_cons (pe_ix (ix_seqK (K := K) rfl) (pv 0) (pv 2) (fun _ _ => rfl)) (pa_cons (pe_ix (ix_seqK (K := K) rfl) (pv 1) (pv 2) (fun _ _ => rfl)) pa_nil)))))))) (pss_one (ps_ret pe_bl)) pss_nil)))
      (pss_one (ps_ret pe_bl)))) pss_nil)
      (pss_cons (ps_if (PW.pt (pw_and (pt_val (pe_callB (isiK (K := K) rfl) rfl (n_isinstance T) (by decide +kernel) (pa_cons (pv 1) (pa_cons (pe_bltn (v := .ty "tuple") (u := .type "tuple") rfl (n_tuple T) (by decide +kernel) rfl) pa_nil)))) (pw_and1 (pt_not (pt_val (pe_callB (isiK (K := K) rfl) rfl (n_isinstance T) (by decide +kernel) (pa_cons (pv 0) (pa_cons (pe_bltn (v := .ty "tuple") (u := .type "tuple") rfl (n_tuple T) (by decide +kernel) rfl) pa_nil)))))))) (pss_one (ps_ret pe_bl)) pss_nil)
      (pss_cons (ps_if (PW.pt (pw_and (pt_val (pe_callB (isiK (K := K) rfl) rfl (n_isinstance T) (by decide +kernel) (pa_cons (pv 1) (pa_cons (pe_bltn (v := .ty "list") (u := .type "list") rfl (n_list T) (by decide +kernel) rfl) pa_nil)))) (pw_and1 (pt_not (pt_val (pe_callB (isiK (K := K) rfl) rfl (n_isinstance T) (by decide +kernel) (pa_cons (pv 0) (pa_cons (pe_bltn (v := .ty "list") (u := .type "list") rfl (n_list T) (by decide +kernel) rfl) pa_nil)))))))) (pss_one (ps_ret pe_bl)) pss_nil)
      (pss_cons (ps_if (pt_cmpR op_ne (pe_callB (len_seqK (K := K) rfl) rfl (n_len T) (by decide +kernel) (pa_cons (pv 0) pa_nil)) (pe_callB (len_seqK (K := K) rfl) rfl (n_len T) (by decide +kernel) (pa_cons (pv 1) pa_nil)) (nomark _)) (pss_one (ps_ret pe_bl)) pss_nil)
      (pss_cons (ps_for PassesOwn.never rfl (pi_range1 rfl (n_range T) (pa_cons (pe_callB (len_seqK (K := K) rfl) rfl (n_len T) (by decide +kernel) (pa_cons (pv 1) pa_nil)) pa_nil)) (pg_name (i := 3) sc__law_matches.nd rfl (by first | exact Or.inl rfl | exact Or.inr rfl))
        (pss_one (ps_if (pt_not (pt_val (pe_ok (ok__law_matches T) (hr.mono (by first | decide | omega)) rfl pass0 (pa_cons (pe_ix (ix_seqK (K := K) rfl) (pv 0) (pv 3) (fun _ _ => rfl)) (pa_cons (pe_ix (ix_seqK (K := K) rfl) (pv 1) (pv 3) (fun _ _ => rfl)) pa_nil))))) (pss_one (ps_ret pe_bl)) pss_nil)))
      (pss_one (ps_ret pe_bl))))))))))), ?_⟩
    rcases h with h | h
    · rcases h with ⟨rfl, rfl⟩ | ⟨n, rfl, rfl⟩ | ⟨z, rfl, rfl⟩
      · refine ⟨_, rfl, rfl, _, rfl, iteT ⟨_, rfl, rfl, _, rfl, iteT ⟨_, rfl, rfl, ?_⟩⟩⟩
        rw [decide_eq_true rfl]
        exact q _ (Same.refl _)
      · refine ⟨_, rfl, rfl, _, rfl, iteF ⟨_, rfl, rfl, _, rfl, iteF ?_⟩⟩
        refine ⟨_, rfl, ⟨_, _, _, _, _, rfl, .ty _, tx_int _, k_ib, _, rfl, iteF ⟨_, rfl, ⟨_, _, _, _, _, rfl, .ty _, tx_int _, k_ib, _, rfl, iteF ?_⟩⟩⟩⟩
        refine ⟨_, rfl, ⟨_, _, _, _, _, rfl, .ty _, tx_int _, k_ii, _, rfl, iteT ⟨_, rfl, ⟨_, _, _, _, _, rfl, .ty _, tx_int _, k_ii, _, rfl, iteT ⟨_, rfl, _, rfl, rfl, ?_⟩⟩⟩⟩⟩
        rw [decide_eq_true rfl]
        exact q _ (Same.refl _)
      · refine ⟨_, rfl, rfl, _, rfl, iteF ⟨_, rfl, rfl, _, rfl, iteF ?_⟩⟩
        refine ⟨_, rfl, ⟨_, _, _, _, _, rfl, .ty _, tx_str _, k_sb, _, rfl, iteF ⟨_, rfl, ⟨_, _, _, _, _, rfl, .ty _, tx_str _, k_sb, _, rfl, iteF ?_⟩⟩⟩⟩
        refine ⟨_, rfl, ⟨_, _, _, _, _, rfl, .ty _, tx_str _, k_si, _, rfl, iteF ?_⟩⟩
        refine ⟨_, rfl, ⟨_, _, _, _, _, rfl, .ty _, tx_str _, k_ss, _, rfl, iteT ⟨_, rfl, ⟨_, _, _, _, _, rfl, .ty _, tx_str _, k_ss, _, rfl, iteT ⟨_, rfl, _, rfl, rfl, ?_⟩⟩⟩⟩⟩
        rw [decide_eq_true rfl]
        exact q _ (Same.refl _)
    · obtain ⟨a, b, xs, ys, rfl, rfl, h, hl, hz, hr⟩ := h
      refine ⟨_, rfl, rfl, _, rfl, iteF ⟨_, rfl, rfl, _, rfl, iteF ?_⟩⟩
      rcases h with ⟨ha, hb⟩ | ⟨ha, hb⟩
      · refine ⟨_, rfl, ⟨_, _, _, _, _, rfl, .ty _, tx_lst hb, k_lb, _, rfl, iteF ⟨_, rfl, ⟨_, _, _, _, _, rfl, .ty _, tx_lst ha, k_lb, _, rfl, iteF ?_⟩⟩⟩⟩
        refine ⟨_, rfl, ⟨_, _, _, _, _, rfl, .ty _, tx_lst hb, k_li, _, rfl, iteF ?_⟩⟩
        refine ⟨_, rfl, ⟨_, _, _, _, _, rfl, .ty _, tx_lst hb, k_ls, _, rfl, iteF ?_⟩⟩
        refine ⟨_, rfl, ⟨_, _, _, _, _, rfl, .ty _, tx_lst hb, k_ld, _, rfl, iteF ?_⟩⟩
        refine ⟨_, rfl, ⟨_, _, _, _, _, rfl, .ty _, tx_lst hb, k_lt, _, rfl, iteF ?_⟩⟩
        refine ⟨_, rfl, ⟨_, _, _, _, _, rfl, .ty _, tx_lst hb, k_ll, _, rfl, iteT ⟨_, rfl, ⟨_, _, _, _, _, rfl, .ty _, tx_lst ha, k_ll, _, rfl, iteF ?_⟩⟩⟩⟩
        refine ⟨_, rfl, _, _, rfl, .inl (SqL.of ha), _, rfl, _, _, rfl, .inl (SqL.of hb), rfl, _, rfl, ?_⟩
        rw [hl, decide_eq_true rfl]
        refine iteF ⟨_, rfl, _, _, rfl, .inl (SqL.of hb), _, rfl, by omega, by omega, for_upto (lo := 0) (L := ys.length) (by omega) (fun i σ H' => ∃ v3, σ = [some (.ref a), some (.ref b), none, v3] ∧ Same H H') ⟨none, rfl, Same.refl H⟩ ?_ ?_⟩
        · rintro i σ H' hi ⟨v3, rfl, e⟩
          obtain ⟨x, hx⟩ : ∃ x, xs[i]? = some x := ⟨xs[i]'(by omega), List.getElem?_eq_getElem _⟩
          obtain ⟨y, hy⟩ : ∃ y, ys[i]? = some y := ⟨ys[i], List.getElem?_eq_getElem _⟩
          refine ⟨_, rfl, _, rfl, .inl ⟨a, _, _, _, rfl, rfl, e.seq (SqL.of ha), at_of (by omega) hx, _, rfl, _, rfl, .inl ⟨b, _, _, _, rfl, rfl, e.seq (SqL.of hb), at_of (by omega) hy, ?_⟩⟩⟩
          exact hR _ _ _ _ (hS _ _ _ _ e (hr i x y hx hy)) fun H2 s2 => ⟨_, rfl, _, rfl, e.trans s2⟩
        · rintro σ H' ⟨v3, rfl, e⟩
          exact q _ e
      · refine ⟨_, rfl, ⟨_, _, _, _, _, rfl, .ty _, tx_tup hb, k_tb, _, rfl, iteF ⟨_, rfl, ⟨_, _, _, _, _, rfl, .ty _, tx_tup ha, k_tb, _, rfl, iteF ?_⟩⟩⟩⟩
        refine ⟨_, rfl, ⟨_, _, _, _, _, rfl, .ty _, tx_tup hb, k_ti, _, rfl, iteF ?_⟩⟩
        refine ⟨_, rfl, ⟨_, _, _, _, _, rfl, .ty _, tx_tup hb, k_ts, _, rfl, iteF ?_⟩⟩
        refine ⟨_, rfl, ⟨_, _, _, _, _, rfl, .ty _, tx_tup hb, k_td, _, rfl, iteF ?_⟩⟩
        refine ⟨_, rfl, ⟨_, _, _, _, _, rfl, .ty _, tx_tup hb, k_tt, _, rfl, iteT ⟨_, rfl, ⟨_, _, _, _, _, rfl, .ty _, tx_tup ha, k_tt, _, rfl, iteF ?_⟩⟩⟩⟩
        refine ⟨_, rfl, ⟨_, _, _, _, _, rfl, .ty _, tx_tup hb, k_tl, _, rfl, iteF ?_⟩⟩
        refine ⟨_, rfl, _, _, rfl, .inr (SqT.of ha), _, rfl, _, _, rfl, .inr (SqT.of hb), rfl, _, rfl, ?_⟩
        rw [hl, decide_eq_true rfl]
        refine iteF ⟨_, rfl, _, _, rfl, .inr (SqT.of hb), _, rfl, by omega, by omega, for_upto (lo := 0) (L := ys.length) (by omega) (fun i σ H' => ∃ v3, σ = [some (.ref a), some (.ref b), none, v3] ∧ Same H H') ⟨none, rfl, Same.refl H⟩ ?_ ?_⟩
        · rintro i σ H' hi ⟨v3, rfl, e⟩
          obtain ⟨x, hx⟩ : ∃ x, xs[i]? = some x := ⟨xs[i]'(by omega), List.getElem?_eq_getElem _⟩
          obtain ⟨y, hy⟩ : ∃ y, ys[i]? = some y := ⟨ys[i], List.getElem?_eq_getElem _⟩
          refine ⟨_, rfl, _, rfl, .inr (.inl ⟨a, _, _, _, rfl, rfl, e.tup (SqT.of ha), at_of (by omega) hx, _, rfl, _, rfl, .inr (.inl ⟨b, _, _, _, rfl, rfl, e.tup (SqT.of hb), at_of (by omega) hy, ?_⟩)⟩)⟩
          exact hR _ _ _ _ (hS _ _ _ _ e (hr i x y hx hy)) fun H2 s2 => ⟨_, rfl, _, rfl, e.trans s2⟩
        · rintro σ H' ⟨v3, rfl, e⟩
          exact q _ e
theorem ok_mn0 (T : Txt w K mg) : Ok P w K mg base CX0 1 "_law_matches" ["answer", "due"] (spMt (MtN 0)) :=
  (mn_gen (k := 0) (sp0 := fun _ _ _ _ => False) (R := fun _ _ _ => False) T (fun T => Ok.never (f__law_matches T) (fun _ _ _ _ _ _ us hl => match us, hl with | [_, _], _ => rfl)) (fun _ _ _ _ h _ => h.elim) (fun _ _ _ _ _ h => h)).imp fun vs H Q E ⟨v, u, e, h, q⟩ => ⟨v, u, e, .inl h, q⟩
theorem ok_mn1 (T : Txt w K mg) : Ok P w K mg base CX0 2 "_law_matches" ["answer", "due"] (spMt (MtN 1)) :=
  mn_gen (k := 1) T (fun T => ok_mn0 T) (fun _ v u _ h q => ⟨v, u, rfl, h, q⟩) (fun _ _ _ _ e h => MtN.same (k := 0) e h)
theorem ok_mn2 (T : Txt w K mg) : Ok P w K mg base CX0 3 "_law_matches" ["answer", "due"] (spMt (MtN 2)) :=
  mn_gen (k := 2) T (fun T => ok_mn1 T) (fun _ v u _ h q => ⟨v, u, rfl, h, q⟩) (fun _ _ _ _ e h => MtN.same (k := 1) e h)
theorem ok_mn3 (T : Txt w K mg) : Ok P w K mg base CX0 4 "_law_matches" ["answer", "due"] (spMt (MtN 3)) :=
  mn_gen (k := 3) T (fun T => ok_mn2 T) (fun _ v u _ h q => ⟨v, u, rfl, h, q⟩) (fun _ _ _ _ e h => MtN.same (k := 2) e h)
end
end K27
end
section
set_option maxRecDepth 100000
set_option maxHeartbeats 4000000
namespace K27
open PySem PySem.Spec PyProof.Rows L2
/-- the stretches in which such a weather is tight -/
def tiB (T : Nat) (ws : List (Int × Int)) (os : List (Option Int)) (c : Int × Int) : Bool := isT ws (wayR T os ws.length) c.1.toNat c.2.toNat
def RowD (T : Nat) (ws : List (Int × Int)) (H : Hp) (y : V) (os : List (Option Int)) : Prop := ∃ d n, y = .ref d ∧ SetP H d n (fun c => decide (c ∈ strL T) && tiB T ws os c)
theorem RowD.same {T : Nat} {ws : List (Int × Int)} {H H' : Hp} (e : Same H H') {y : V} {os : List (Option Int)} (h : RowD T ws H y os) : RowD T ws H' y os := by
  obtain ⟨d, n, rfl, h⟩ := h
  exact ⟨d, n, rfl, h.same e⟩
theorem strL_ok {T : Nat} {s : Int × Int} (h : s ∈ strL T) : StrOk T s := by
  obtain ⟨a, b, h1, h2, rfl⟩ := strL_mem h
  unfold StrOk
  show (0 : Int) ≤ a ∧ (b : Int) ≤ T ∧ (a : Int) < b
  omega
theorem no_bad {ws : List (Int × Int)} {n : Nat} (h : BadCan (ws.map canR) n) : False := by
  obtain ⟨r, h1, h2, h3⟩ := h
  obtain ⟨c, hc, rfl⟩ := List.mem_map.mp (List.mem_of_getElem? h1)
  exact h3 ⟨rfl, rfl⟩
theorem can_one {ws : List (Int × Int)} : OneCan (ws.map canR) := fun r hr => by
  obtain ⟨c, hc, rfl⟩ := List.mem_map.mp hr
  exact ⟨rfl, rfl⟩
theorem SpanOk.good {T : Nat} {ws : List (Int × Int)} (hT : T ≤ 24) (h : ∀ c ∈ ws, SpanOk T c) : ∀ r ∈ ws.map canR, GoodR r ∧ r.2.1 ≤ 1000 := fun r hr => by
  obtain ⟨c, hc, rfl⟩ := List.mem_map.mp hr
  have := h c hc
  unfold SpanOk at this
  unfold GoodR canR
  refine ⟨⟨this.1, this.2.1, by show (0 : Int) ≤ 1; decide, by show (1 : Int) ≤ 1; decide, by show (1 : Int) ≤ 10 ^ 12; decide⟩, ?_⟩
  show c.2 ≤ 1000
  omega
theorem total_way {T n : Nat} {os : List (Option Int)} : total (wayR T os n) ≤ T * n := by
  unfold wayR total
  rw [List.map_map]
  have : ∀ l : List Nat, (l.map (List.length ∘ repN os n)).sum ≤ l.length * n := fun l => by
    induction l with
    | nil => exact Nat.zero_le _
    | cons x t ih =>
      rw [List.map_cons, List.sum_cons, List.length_cons, Nat.succ_mul]
      have : (List.length ∘ repN os n) x ≤ n := repN_le
      omega
  have := this (List.range T)
  rw [List.length_range] at this
  exact this
theorem count_pos {α : Type} {p : α → Bool} {l : List α} : 0 < (l.filter p).length ↔ ∃ x ∈ l, p x = true := by
  rw [List.length_pos_iff_exists_mem]
  constructor
  · rintro ⟨x, hx⟩
    exact ⟨x, (List.mem_filter.mp hx).1, (List.mem_filter.mp hx).2⟩
  · rintro ⟨x, h1, h2⟩
    exact ⟨x, List.mem_filter.mpr ⟨h1, h2⟩⟩
section
variable {P : Program} {w : World} {K : PySem.W.Frag} {mg : Str → Option Value} {base : Heap}
def spLotR (K : PySem.W.Frag) : Sp := fun vs H Q _ => ∃ (T : Nat) (p sl rwl l : Addr) (xs dsv ss : List V) (ws lot : List (Int × Int)), vs = [.ref p, .int T, .ref sl, .ref rwl, .ref l] ∧ AlmAt K H p T (ws.map canR) ∧ H sl = some (.lst xs) ∧ Paired (PairT H) xs ws ∧ H rwl = some (.lst dsv) ∧ Paired (RowD T ws H) dsv (allN T ws ws.length) ∧ H l = some (.lst ss) ∧ Paired (PairT H) ss lot ∧
  lot.length ≤ 14 ∧ (∀ s ∈ lot, s ∈ strL T) ∧ T ≤ 24 ∧ ws.length ≤ 40 ∧ (∀ c ∈ ws, SpanOk T c) ∧ (allN T ws ws.length).length ≤ 90000 ∧ ∀ H', Same H H' → Q (.bl true) H'
theorem ok__law_lot_right (T : Txt w K mg) : Ok P w K mg base CX0 8 "_law_lot_right" ["almanac", "days", "spans", "rows", "lot"] (spLotR K) := by
  have ok__law_matches := fun (T : Txt w K mg) => ok_mn3 (P := P) (base := base) T
  refine Ok.def0 (f__law_lot_right T) (fun _ _ _ _ _ _ us hl => match us, hl with | [_, _, _, _, _], _ => rfl) sc__law_lot_right (fun vs H Q E h => ?_) (fun f cdv A outer s H vs Q E hr h => ?_)
  · obtain ⟨TT, p, sl, rwl, l, xs, dsv, ss, ws, lot, rfl, _⟩ := h
    rfl
  · obtain ⟨TT, p, sl, rwl, l, xs, dsv, ss, ws, lot, rfl, hA, hsl, hX, hrw, hD, hl, hP, hll, hlS, hT, hw, hs, hal, k⟩ := h
    refine ⟨_, (pss_cons (ps_set (i := 5) sc__law_lot_right.nd rfl (by first | exact Or.inl rfl | exact Or.inr rfl) (pe_callTy (list_ofK (K := K) rfl) rfl (n_list T) (by decide +kernel) (pa_cons (pv 4) pa_nil)))
      (pss_cons (ps_set (i := 6) sc__law_lot_right.nd rfl (by first | exact Or.inl rfl | exact Or.inr rfl) (pe_ok (ok_lot_together T) (hr.mono (by first | decide | omega)) rfl passL (pa_cons (pv 0) (pa_cons (pv 5) pa_nil))))
      (pss_cons (ps_if (PW.pt (pw_or (pt_cmpR (neDK (K := K) rfl hr.units) (pv 5) (pe_callTy (list_ofK (K := K) rfl) rfl (n_list T) (by decide +kernel) (pa_cons (pv 4) pa_nil)) (nomark _)) (pw_or (pt_not (pt_val (pe_callB (isiK (K := K) rfl) rfl (n_isinstance T) (by decide +kernel) (pa_cons (pv 6) (pa_cons (pe_bltn (v := .ty "tuple") (u := .type "tuple") rfl (n_tuple T) (by decide +kernel) rfl) pa_nil))))) (pw_or1 (pt_cmpR op_ne (pe_callB (len_seqK (K := K) rfl) rfl (n_len T) (by decide +kernel) (pa_cons (pv 6) pa_nil)) pe_int (nomark _)))))) (pss_one (ps_ret pe_bl)) pss_nil)
      (pss_cons (ps_set (i := 9) sc__law_lot_right.nd rfl (by first | exact Or.inl rfl | exact Or.inr rfl) (pe_cmpR op_gt (pe_callB (len_seqK (K := K) rfl) rfl (n_len T) (by decide +kernel) (pa_cons (pe_lc (own := [("row", 7)]) rfl sc__law_lot_right.nd (pi_listK (K := K) rfl (pv 3)) (blkOk_by (N := ["almanac", "days", "spans", "rows", "lot", "given", "told", "row", "stretch", "possible", "covered"]) (sc := defScope s__law_lot_right) (by decide +kernel)) (fun _ _ _ _ _ => (pg_name (i := 7) sc__law_lot_right.nd rfl (by first | exact Or.inl rfl | exact Or.inr rfl))) (fun _ _ _ _ _ => pts_one (pt_cmpR op_eq (pe_callB (len_seqK (K := K) rfl) rfl (n_len T) (by decide +kernel) (pa_cons (pe_lc (own := [("stretch", 8)]) rfl sc__law_lot_right.nd (pi_listK (K := K) rfl (pv 4)) (by exact blkOk_by (by kernel_rfl)) (fun _ _ _ _ _ => (pg_name (i := 8) sc__law_lot_right.nd rfl (by first | exact Or.inl rfl | exact Or.inr rfl))) (fun _ _ _ _ _ => pts_one (pt_cmp (pc_dnotin (du hr.units) (pv 8) (pv 7)))) (fun _ _ _ _ _ => (pv 8))) pa_nil)) pe_int (nomark _))) (fun _ _ _ _ _ => (pv 7))) pa_nil)) pe_int (nomark _)))
      (pss_cons (ps_set (i := 10) sc__law_lot_right.nd rfl (by first | exact Or.inl rfl | exact Or.inr rfl) (pe_ok (ok__law_first_covered T) (hr.mono (by first | decide | omega)) rfl pass0 (pa_cons (pv 1) (pa_cons (pv 2) (pa_cons (pv 4) pa_nil)))))
      (pss_cons (ps_if (pt_cmpR op_ne (pv 9) (pe_cmpR op_eq (pv 10) pe_int (nomark _)) (nomark _)) (pss_one (ps_ret pe_bl)) pss_nil)
      (pss_cons (ps_if (pt_cmpR op_gt (pv 10) pe_int (nomark _)) (pss_one (ps_ret (pe_ok (ok__law_matches T) (hr.mono (by first | decide | omega)) rfl pass0 (pa_cons (pv 6) (pa_cons (pe_tup (pa_cons pe_str (pa_cons (pv 10) pa_nil))) pa_nil))))) pss_nil)
      (pss_cons (ps_if (PW.pt (pw_or (pt_cmpR op_ne (pe_ix (ix_seqK (K := K) rfl) (pv 6) pe_int (fun _ _ => rfl)) pe_str (nomark _)) (pw_or1 (pt_not (pt_val (pe_ok (ok__law_are_weathers T) (hr.mono (by first | decide | omega)) rfl pass0 (pa_cons (pv 1) (pa_cons (pe_ok (ok__law_can_rains T) (hr.mono (by first | decide | omega)) rfl pass0 (pa_cons (pv 2) pa_nil)) (pa_cons (pe_lst (pa_cons (pe_ix (ix_seqK (K := K) rfl) (pv 6) pe_int (fun _ _ => rfl)) pa_nil)) pa_nil))))))))) (pss_one (ps_ret pe_bl)) pss_nil)
      (pss_one (ps_ret (pe_cmpR op_eq (pe_callB (len_seqK (K := K) rfl) rfl (n_len T) (by decide +kernel) (pa_cons (pe_lc (own := [("stretch", 8)]) rfl sc__law_lot_right.nd (pi_listK (K := K) rfl (pv 4)) (blkOk_by (N := ["almanac", "days", "spans", "rows", "lot", "given", "told", "row", "stretch", "possible", "covered"]) (sc := defScope s__law_lot_right) (by decide +kernel)) (fun _ _ _ _ _ => (pg_name (i := 8) sc__law_lot_right.nd rfl (by first | exact Or.inl rfl | exact Or.inr rfl))) (fun _ _ _ _ _ => pts_one (pt_not (pt_val (pe_ok (ok__law_is_tight T) (hr.mono (by first | decide | omega)) rfl pass0 (pa_cons (pv 2) (pa_cons (pe_ix (ix_seqK (K := K) rfl) (pv 6) pe_int (fun _ _ => rfl)) (pa_cons (pe_ix (ix_seqK (K := K) rfl) (pv 8) pe_int (fun _ _ => rfl)) (pa_cons (pe_ix (ix_seqK (K := K) rfl) (pv 8) pe_int (fun _ _ => rfl)) pa_nil)))))))) (fun _ _ _ _ _ => (pv 8))) pa_nil)) pe_int (nomark _)))))))))))), ?_⟩
    have hg := SpanOk.good hT hs
    have hwl : (ws.map canR).length ≤ 40 := by rw [List.length_map]; exact hw
    have hsl' : ss.length = lot.length := Paired.length hP
    have hf1 : ∀ c ∈ ws, 1 ≤ c.1 := fun c hc => (hs c hc).1
    have hf3 : ∀ c ∈ ws, 1 ≤ c.1 ∧ c.1 ≤ c.2 ∧ c.2 ≤ 1000 := fun c hc => ⟨(hs c hc).1, (hs c hc).2.1, by have := (hs c hc).2.2.2; omega⟩
    have hlN : ∀ s ∈ lot, ∃ a b : Nat, a < b ∧ b ≤ TT ∧ s = ((a : Int), (b : Int)) := fun s h => strL_mem (hlS s h)
    have hiff := lot_iff (T := TT) (ws := ws) (lot := lot) hf1 hlN
    refine ⟨_, rfl, l, ss, rfl, .inl (SqL.of hl), fun g hg0 => ?_⟩
    obtain ⟨s1, g1⟩ := new2 (.lst ss) hg0
    have hP1 := Paired.mapP hP fun _ _ z => z.same s1
    refine nxE (st_let (fun v H2 => ∃ r, v = .ref r ∧ Same H H2 ∧ H2 g = some (.lst ss) ∧ ((∃ (n : Nat) (c : Int × Int), ws[n]? = some c ∧ freeD TT lot c = 0 ∧ (∀ i c', i < n → ws[i]? = some c' → freeD TT lot c' ≠ 0) ∧ H2 r = some (.tup [.str "rain", .int ((n : Int) + 1)])) ∨
      ((∀ c ∈ ws, freeD TT lot c ≠ 0) ∧ ∃ m, H2 r = some (.tup [.str "weather", .ref m]) ∧ WeaT H2 m (wayR TT ((ws.map (freeD TT lot)).map (optOf TT)) ws.length)))) (fun R hR => ?_) (fun v H2 hv => ?_))
    · refine ⟨_, rfl, _, rfl, TT, p, g, ws.map canR, ss, lot, rfl, hA.same s1, g1, hP1, by omega, hT, hwl, hg, fun z => absurd hll (by omega), fun _ n hb => (no_bad hb).elim, fun _ _ n s hs' hbad _ => absurd (strL_ok (hlS s (List.mem_of_getElem? hs'))) hbad, fun _ _ ws' e => ?_⟩
      obtain rfl := canR_inj e
      exact ⟨fun n c r H' hc hz hno s2 g2 => hR _ _ ⟨r, rfl, s1.trans s2, s2 _ _ g1, .inl ⟨n, c, hc, hz, hno, g2⟩⟩, fun hall r m H' s2 g2 hW => hR _ _ ⟨r, rfl, s1.trans s2, s2 _ _ g1, .inr ⟨hall, m, g2, hW⟩⟩⟩
    obtain ⟨r, rfl, s2, gg, hcase⟩ := hv
    obtain ⟨z1, z2, hrt⟩ : ∃ z1 z2, H2 r = some (.tup [z1, z2]) := by
      rcases hcase with ⟨n, c, _, _, _, h⟩ | ⟨_, m, h, _⟩
      · exact ⟨_, _, h⟩
      · exact ⟨_, _, h⟩
    -- as it was
    refine ⟨_, rfl, _, rfl, l, ss, rfl, .inl (SqL.of (s2 _ _ hl)), fun u hu => ?_⟩
    obtain ⟨s3, g3⟩ := new2 (.lst ss) hu
    have e3 := s2.trans s3
    have hP3 := Paired.mapP hP fun _ _ z => z.same e3
    refine ne_pairs (s3 _ _ gg) g3 hP3 hP3 ⟨_, rfl, _, rfl, ⟨_, _, _, _, _, rfl, .ty _, tx_tup (s3 _ _ hrt), k_tt, _, rfl, _, rfl, _, _, rfl, .inr (SqT.of (s3 _ _ hrt)), rfl, _, rfl, iteF ?_⟩⟩
    generalize upd H2 u (.lst ss) = H3 at s3 g3 e3 hP3 ⊢
    -- possible
    refine nxE (st_let (fun v H4 => Same H3 H4 ∧ ∃ b, v = .bl b ∧ (b = true ↔ ∀ c ∈ ws, freeD TT lot c ≠ 0)) (fun R hR => ?_) (fun v H4 hv => ?_))
    · have hD3 := Paired.mapP hD fun _ _ z => z.same e3
      have hdl : dsv.length = (allN TT ws ws.length).length := Paired.length hD
      refine ⟨_, rfl, rwl, rfl, ⟨_, SqL.of (e3 _ _ hrw)⟩, fun B hB => lc_count (K := K) (a := rwl) (xs := dsv) (R := RowD TT ws) (ds := allN TT ws ws.length) (p := fun os => lot.all (tiB TT ws os)) hB (e3 _ _ hrw) hD3 (by omega) ?_ ?_⟩
      · intro j y os H4 N N0 hy hos hr s4 hN hN0
        obtain ⟨d, n, rfl, hset⟩ := hr.same s4
        have e4 := e3.trans s4
        refine gnE ⟨rfl, ?_⟩
        refine ⟨_, rfl, l, rfl, ⟨_, SqL.of (e4 _ _ hl)⟩, fun B2 hB2 => lc_count (K := K) (a := l) (xs := ss) (R := PairT) (ds := lot) (p := fun s => !tiB TT ws os s) hB2 (e4 _ _ hl) (Paired.mapP hP fun _ _ z => z.same e4) (by omega) ?_ ?_⟩
        · intro j y c H5 N' N0' hy hc hr s5 hN' hN0'
          have hG := (hset.same s5).get (hr.same s5)
          have hin : decide (c ∈ strL TT) = true := decide_eq_true (hlS c (List.mem_of_getElem? hc))
          refine gnE ⟨rfl, ?_⟩
          refine ⟨_, rfl, _, rfl, d, _, rfl, hG, _, rfl, ?_⟩
          show (if (!(if (decide (c ∈ strL TT) && tiB TT ws os c) = true then some (V.bl true) else none).isSome) = true then _ else _)
          rw [hin]
          cases q : tiB TT ws os c with
          | true => exact hN0' _ (Same.refl _) (by rw [q]; rfl)
          | false => exact ⟨_, rfl, hN' _ (Same.refl _) (by rw [q]; rfl)⟩
        · intro bs H5 s5 hbs hbl _
          have ein : (lot.filter fun s => !tiB TT ws os s).length = 0 ↔ lot.all (tiB TT ws os) = true := by
            rw [filter_len0]
            have : (fun x => !!tiB TT ws os x) = tiB TT ws os := funext fun x => Bool.not_not _
            rw [this]
          refine ⟨_, _, rfl, .inl (SqL.of hbs), rfl, _, rfl, ite2 (fun q => ?_) (fun q => ?_)⟩
          · have q := V.int.inj (of_decide_eq_true q)
            exact ⟨_, rfl, hN _ s5 (ein.mp (by omega))⟩
          · have q : ¬ bs.length = 0 := fun y => q (decide_eq_true (by rw [y]; rfl))
            rw [hbl] at q
            refine hN0 _ s5 ?_
            cases qq : lot.all (tiB TT ws os) with
            | false => rfl
            | true => exact absurd (ein.mpr qq) q
      · intro bs H4 s4 hbs hbl _
        refine ⟨_, _, rfl, .inl (SqL.of hbs), _, _, rfl, rfl, hR _ _ ⟨s4, _, rfl, ?_⟩⟩
        rw [decide_eq_true_eq, hbl, ← hiff]
        have : ((0 : Int) < (((allN TT ws ws.length).filter fun os => lot.all (tiB TT ws os)).length : Int)) ↔ 0 < ((allN TT ws ws.length).filter fun os => lot.all (tiB TT ws os)).length := by omega
        rw [this, count_pos]
        constructor
        · rintro ⟨os, h1, h2⟩
          exact ⟨os, h1, fun s hs => List.all_eq_true.mp h2 s hs⟩
        · rintro ⟨os, h1, h2⟩
          exact ⟨os, h1, List.all_eq_true.mpr fun s hs => h2 s hs⟩
    obtain ⟨s4, b, rfl, hb⟩ := hv
    have e4 := e3.trans s4
    have hrt4 := s4 _ _ (s3 _ _ hrt)
    have s24 := s3.trans s4
    refine ⟨_, rfl, _, rfl, _, rfl, TT, sl, l, xs, ws, ss, lot, rfl, e4 _ _ hsl, Paired.mapP hX fun _ _ z => z.same e4, e4 _ _ hl, Paired.mapP hP fun _ _ z => z.same e4, by omega, hT, hw, hf3, fun n c H5 hc hz hno s5 => ?_, fun hall H5 s5 => ?_⟩
    · -- covered
      have hbf : b = false := by
        cases b with
        | false => rfl
        | true => exact absurd hz (hb.mp rfl c (List.mem_of_getElem? hc))
      subst hbf
      have hr5 : H5 r = some (.tup [.str "rain", .int ((n : Int) + 1)]) := by
        rcases hcase with ⟨n', c', hc', hz', hno', h⟩ | ⟨hall, _⟩
        · have : n' = n := by
            rcases Nat.lt_trichotomy n n' with q | q | q
            · exact absurd hz (hno' n c q hc)
            · exact q.symm
            · exact absurd hz' (hno n' c' q hc')
          rw [this] at h
          exact s5 _ _ (s24 _ _ h)
        · exact absurd hz (hall c (List.mem_of_getElem? hc))
      refine ⟨_, rfl, _, rfl, rfl, rfl, _, rfl, ?_⟩
      rw [decide_eq_false (p := V.int ((n : Int) + 1) = V.int 0) fun z => by have := V.int.inj z; omega]
      rw [decide_eq_true rfl]
      refine iteF ?_
      refine ⟨_, rfl, _, _, rfl, rfl, _, rfl, ?_⟩
      rw [decide_eq_true (p := (0 : Int) < (n : Int) + 1) (by omega)]
      refine ⟨_, rfl, _, rfl, (by show 2 ≤ sizeLine; decide), fun t ht => ?_⟩
      obtain ⟨s6, g6⟩ := new2 (.tup [.str "rain", .int ((n : Int) + 1)]) ht
      exact ⟨.ref r, .ref t, rfl, mtN_up (mtN_up (mtN_two (k := 0) (s6 _ _ hr5) g6 (.inr (.inl ⟨_, rfl, rfl⟩)))), fun H7 s7 => k H7 (e4.trans (s5.trans (s6.trans s7)))⟩
    · -- a weather
      have hbt : b = true := hb.mpr hall
      subst hbt
      obtain ⟨m, hrm, hWm⟩ : ∃ m, H5 r = some (.tup [.str "weather", .ref m]) ∧ WeaT H5 m (wayR TT ((ws.map (freeD TT lot)).map (optOf TT)) ws.length) := by
        rcases hcase with ⟨n', c', hc', hz', hno', h⟩ | ⟨_, m, h1, h2⟩
        · exact absurd hz' (hall c' (List.mem_of_getElem? hc'))
        · exact ⟨m, s5 _ _ (s24 _ _ h1), h2.same (s24.trans s5)⟩
      obtain ⟨q1, q2⟩ := placed_way (T := TT) (lot := lot) hf1 hall
      have hright := way_right q1 hf1
      generalize (ws.map (freeD TT lot)).map (optOf TT) = os at hWm q1 q2 hright
      have e5 := e4.trans s5
      refine ⟨_, rfl, _, rfl, rfl, rfl, _, rfl, ?_⟩
      rw [decide_eq_true (p := V.int 0 = V.int 0) rfl, decide_eq_true rfl]
      refine iteF ?_
      refine ⟨_, rfl, _, _, rfl, rfl, _, rfl, iteF ?_⟩
      have t1 : ∀ {H' : Hp} {Q : VK}, Same H5 H' → Q (.ref m) H' → rIx K (.ref r) (.int 1) H' Q := fun s q => .inr (.inl ⟨r, _, 1, _, rfl, rfl, SqT.of (s _ _ hrm), rfl, q⟩)
      refine ⟨_, rfl, .inr (.inl ⟨r, _, 0, _, rfl, rfl, SqT.of hrm, rfl, rfl, _, rfl, ?_⟩)⟩
      rw [decide_eq_true rfl]
      refine ⟨_, rfl, _, rfl, sl, xs, ws, rfl, e5 _ _ hsl, Paired.mapP hX fun _ _ z => z.same e5, hw, fun rl qs H6 hrl s6 g6 hQ6 => ?_⟩
      refine ⟨_, rfl, t1 s6 ⟨(by show 1 ≤ sizeLine; decide), fun ml hml => ?_⟩⟩
      obtain ⟨s7, g7⟩ := new2 (.lst [V.ref m]) hml
      refine ⟨TT, rl, ml, qs, [.ref m], ws.map canR, [wayR TT os ws.length], rfl, s7 _ _ g6, Paired.mapP hQ6 fun _ _ z => z.same s7, g7, .cons ⟨m, rfl, hWm.same (s6.trans s7)⟩ .nil, hT, hwl, fun r hr => (hg r hr).1, fun W hW => ?_, fun H8 s8 => ⟨_, rfl, ?_⟩⟩
      · rw [List.mem_singleton.mp hW]
        refine ⟨by rw [wayR_len]; omega, ?_, hright⟩
        have h1 := total_way (T := TT) (n := ws.length) (os := os)
        have : TT * ws.length ≤ 24 * 40 := Nat.mul_le_mul hT hw
        omega
      have s58 := s6.trans (s7.trans s8)
      have e8 := e5.trans s58
      have hW8 := hWm.same s58
      obtain ⟨hWl, hfb⟩ := right_len hright
      refine ⟨_, rfl, l, rfl, ⟨_, SqL.of (e8 _ _ hl)⟩, fun B hB => lc_count (K := K) (a := l) (xs := ss) (R := PairT) (ds := lot) (p := fun s => !tiB TT ws os s) hB (e8 _ _ hl) (Paired.mapP hP fun _ _ z => z.same e8) (by omega) ?_ ?_⟩
      · intro j y c H9 N N0 hy hc hr s9 hN hN0
        have hr := hr.same s9
        obtain ⟨a, b, hab, hb', rfl⟩ := hlN c (List.mem_of_getElem? hc)
        have e9 := e8.trans s9
        refine gnE ⟨rfl, ?_⟩
        refine ⟨_, rfl, _, rfl, t1 (s58.trans s9) ⟨_, rfl, hr.i0 ⟨_, rfl, hr.i1 ⟨sl, m, xs, ws, wayR TT os ws.length, a, b, rfl, e9 _ _ hsl, Paired.mapP hX fun _ _ z => z.same e9, hW8.same s9, by omega, by omega, by omega, fun rep hrep c' hc' => ?_, fun H10 s10 => ⟨_, rfl, ?_⟩⟩⟩⟩⟩
        · obtain ⟨q, hq⟩ := List.getElem?_of_mem hrep
          have := (first_ok (Int.le_refl 1) hfb List.nodup_nil).2.1 q rep hq c' hc'
          rw [List.length_map] at this
          exact ⟨this.1, this.2.1⟩
        · have et : tiB TT ws os ((a : Int), (b : Int)) = isT ws (wayR TT os ws.length) a b := rfl
          rw [et] at hN hN0
          cases q : isT ws (wayR TT os ws.length) a b with
          | true => exact hN0 _ s10 (by rw [q]; rfl)
          | false => exact ⟨_, rfl, hN _ s10 (by rw [q]; rfl)⟩
      · intro bs H9 s9 hbs hbl _
        have h0 : (lot.filter fun s => !tiB TT ws os s).length = 0 := by
          rw [filter_len0, List.all_eq_true]
          intro c hc
          rw [Bool.not_not]
          obtain ⟨a, b, hab, hb', rfl⟩ := hlN c hc
          exact (isT_way hb' q1.1).mpr fun i c' o hc' ho => okO_lot.mp (q2 i c' o hc' ho) _ hc
        refine ⟨_, _, rfl, .inl (SqL.of hbs), rfl, ?_⟩
        rw [hbl, h0, decide_eq_true (p := V.int ((0 : Nat) : Int) = V.int 0) rfl]
        exact k H9 (e8.trans s9)
end
end K27
end
section
set_option maxRecDepth 100000
set_option maxHeartbeats 4000000
namespace K27
open PySem PySem.Spec PyProof.Rows L2
def LotV (T : Nat) (H : Hp) (y : V) : Prop := ∃ l ss lot, y = .ref l ∧ H l = some (.lst ss) ∧ Paired (PairT H) ss lot ∧ lot.length ≤ 14 ∧ ∀ s ∈ lot, s ∈ strL T
theorem LotV.same {T : Nat} {H H' : Hp} (e : Same H H') {y : V} (h : LotV T H y) : LotV T H' y := by
  obtain ⟨l, ss, lot, rfl, h1, h2, h3⟩ := h
  exact ⟨l, ss, lot, rfl, e _ _ h1, Paired.mapP h2 fun _ _ z => z.same e, h3⟩
theorem LotV.but {T : Nat} {H H' : Hp} {D : Addr} {xs : List V} (hD : H D = some (.lst xs)) (b : But D H H') {y : V} (hy : y ≠ .ref D) (h : LotV T H y) : LotV T H' y := by
  obtain ⟨l, ss, lot, rfl, h1, h2, h3⟩ := h
  exact ⟨l, ss, lot, rfl, b _ _ h1 fun z => hy (by rw [z]), Paired.mapP h2 fun _ _ z => z.but hD b, h3⟩
theorem LotV.butS {T : Nat} {H H' : Hp} {sa : Addr} (hs : Stk H sa) (b : But sa H H') {y : V} (h : LotV T H y) : LotV T H' y := by
  obtain ⟨l, ss, lot, rfl, h1, h2, h3⟩ := h
  obtain ⟨x, y, z, hsa⟩ := id hs
  exact ⟨l, ss, lot, rfl, b _ _ h1 (rep_ne hs h1 h2), Paired.mapP h2 fun _ _ z => z.but hsa b, h3⟩
theorem strL_sq : ∀ n, (strL n).length ≤ n * n
  | 0 => Nat.zero_le _
  | n + 1 => by
    show (strL n ++ strRow n (n + 1)).length ≤ _
    rw [List.length_append, strRow_len]
    have := strL_sq n
    have : (n + 1) * (n + 1) = n * n + n + n + 1 := by rw [Nat.add_mul, Nat.mul_add]; omega
    omega
theorem strL_pos {n : Nat} (h : 1 ≤ n) : 1 ≤ (strL n).length := by
  obtain ⟨m, rfl⟩ : ∃ m, n = m + 1 := ⟨n - 1, by omega⟩
  show 1 ≤ (strL m ++ strRow m (m + 1)).length
  rw [List.length_append, strRow_len]
  omega
section
variable {P : Program} {w : World} {K : PySem.W.Frag} {mg : Str → Option Value} {base : Heap}
def spLots : Sp := fun vs H Q _ => ∃ (T : Nat) (sa : Addr), vs = [.ref sa, .int T] ∧ Stk H sa ∧ 1 ≤ T ∧ T ≤ 6 ∧ ∀ p ls H', But sa H H' → Stk H' sa → H' p = some (.lst ls) → p ≠ sa → ls.length ≤ 90000 → (∀ y ∈ ls, LotV T H' y) → Q (.ref p) H'
theorem ok__law_lots (T : Txt w K mg) : Ok P w K mg base CX0 2 "_law_lots" ["stock", "days"] spLots := by
  refine Ok.def0 (f__law_lots T) (fun _ _ _ _ _ _ us hl => match us, hl with | [_, _], _ => rfl) sc__law_lots (fun vs H Q E h => ?_) (fun f cdv A outer s H vs Q E hr h => ?_)
  · obtain ⟨TT, sa, rfl, _⟩ := h
    rfl
  · obtain ⟨TT, sa, rfl, hst, hT1, hT, k⟩ := h
    refine ⟨_, (pss_cons (ps_set (i := 2) sc__law_lots.nd rfl (by first | exact Or.inl rfl | exact Or.inr rfl) (pe_ok (ok__law_stretches T) (hr.mono (by first | decide | omega)) rfl pass0 (pa_cons (pv 1) pa_nil)))
      (pss_cons (ps_set (i := 4) sc__law_lots.nd rfl (by first | exact Or.inl rfl | exact Or.inr rfl) (pe_op op_cat (pe_lst (pa_cons (pe_lst pa_nil) pa_nil)) (pe_lc (own := [("one", 3)]) rfl sc__law_lots.nd (pi_listK (K := K) rfl (pv 2)) (blkOk_by (N := ["stock", "days", "stretches", "one", "lots", "at", "after", "third", "turn", "again"]) (sc := defScope s__law_lots) (by decide +kernel)) (fun _ _ _ _ _ => (pg_name (i := 3) sc__law_lots.nd rfl (by first | exact Or.inl rfl | exact Or.inr rfl))) (fun _ _ _ _ _ => pts_nil) (fun _ _ _ _ _ => (pe_lst (pa_cons (pv 3) pa_nil))))))
      (pss_cons (ps_for PassesOwn.never rfl (pi_range1 rfl (n_range T) (pa_cons (pe_callB (len_seqK (K := K) rfl) rfl (n_len T) (by decide +kernel) (pa_cons (pv 2) pa_nil)) pa_nil)) (pg_name (i := 5) sc__law_lots.nd rfl (by first | exact Or.inl rfl | exact Or.inr rfl))
        (pss_one (ps_for PassesOwn.never rfl (pi_range1 rfl (n_range T) (pa_cons (pv 5) pa_nil)) (pg_name (i := 6) sc__law_lots.nd rfl (by first | exact Or.inl rfl | exact Or.inr rfl))
        (pss_cons (ps_expr (pe_bm PySem.F.plainAttrs_list PySem.F.slot_list_append PySem.F.type_list_append mt_append (pv 4) (pa_cons (pe_lst (pa_cons (pe_ix (ix_listK (K := K) rfl) (pv 2) (pv 5) (fun _ _ => rfl)) (pa_cons (pe_ix (ix_listK (K := K) rfl) (pv 2) (pv 6) (fun _ _ => rfl)) pa_nil))) pa_nil)))
      (pss_one (ps_if (pt_cmpR op_le (pv 1) pe_int (nomark _)) (pss_one (ps_set (i := 4) sc__law_lots.nd rfl (by first | exact Or.inl rfl | exact Or.inr rfl) (pe_op op_cat (pv 4) (pe_lc (own := [("third", 7)]) rfl sc__law_lots.nd (pi_range1 rfl (n_range T) (pa_cons (pv 6) pa_nil)) (blkOk_by (N := ["stock", "days", "stretches", "one", "lots", "at", "after", "third", "turn", "again"]) (sc := defScope s__law_lots) (by decide +kernel)) (fun _ _ _ _ _ => (pg_name (i := 7) sc__law_lots.nd rfl (by first | exact Or.inl rfl | exact Or.inr rfl))) (fun _ _ _ _ _ => pts_nil) (fun _ _ _ _ _ => (pe_lst (pa_cons (pe_ix (ix_listK (K := K) rfl) (pv 2) (pv 7) (fun _ _ => rfl)) (pa_cons (pe_ix (ix_listK (K := K) rfl) (pv 2) (pv 5) (fun _ _ => rfl)) (pa_cons (pe_ix (ix_listK (K := K) rfl) (pv 2) (pv 6) (fun _ _ => rfl)) pa_nil))))))))) pss_nil))))))
      (pss_cons (ps_for PassesOwn.never rfl (pi_range1 rfl (n_range T) (pa_cons pe_int pa_nil)) (pg_name (i := 8) sc__law_lots.nd rfl (by first | exact Or.inl rfl | exact Or.inr rfl))
        (pss_one (ps_expr (pe_bm PySem.F.plainAttrs_list PySem.F.slot_list_append PySem.F.type_list_append mt_append (pv 4) (pa_cons (pe_lc (own := [("again", 9)]) rfl sc__law_lots.nd (pi_range1 rfl (n_range T) (pa_cons (pe_op op_add pe_int (pe_ok (ok__law_draw T) (hr.mono (by first | decide | omega)) rfl pass0 (pa_cons (pv 0) (pa_cons pe_int pa_nil)))) pa_nil)) (blkOk_by (N := ["stock", "days", "stretches", "one", "lots", "at", "after", "third", "turn", "again"]) (sc := defScope s__law_lots) (by decide +kernel)) (fun _ _ _ _ _ => (pg_name (i := 9) sc__law_lots.nd rfl (by first | exact Or.inl rfl | exact Or.inr rfl))) (fun _ _ _ _ _ => pts_nil) (fun _ _ _ _ _ => (pe_ix (ix_listK (K := K) rfl) (pv 2) (pe_ok (ok__law_draw T) (hr.mono (by first | decide | omega)) rfl pass0 (pa_cons (pv 0) (pa_cons (pe_callB (len_seqK (K := K) rfl) rfl (n_len T) (by decide +kernel) (pa_cons (pv 2) pa_nil)) pa_nil))) (fun _ _ => rfl)))) pa_nil)))))
      (pss_one (ps_ret (pv 4))))))), ?_⟩
    have hsq : (strL TT).length ≤ 36 := Nat.le_trans (strL_sq TT) (Nat.mul_le_mul hT hT)
    have hpos := strL_pos hT1
    refine ⟨_, rfl, TT, rfl, by omega, fun q zs H1 s1 hq g1 hS => ?_⟩
    have hzl : zs.length = (strL TT).length := Paired.length hS
    have st1 := hst.same s1
    have qsa : q ≠ sa := fun z => hst.ne (by rw [← z]; exact hq)
    -- the first ones
    refine nxE (st_let (fun v H2 => ∃ LL ls, v = .ref LL ∧ H1 LL = none ∧ Same H1 H2 ∧ H2 LL = some (.lst ls) ∧ ls.length ≤ 37 ∧ ∀ y ∈ ls, y ≠ .ref LL ∧ LotV TT H2 y) (fun R hR => ?_) (fun v H2 hv => ?_))
    · refine ⟨(by show 0 ≤ sizeLine; decide), fun e he => ⟨(by show 1 ≤ sizeLine; decide), fun u hu => ?_⟩⟩
      obtain ⟨s2, g2⟩ := new2 (.lst []) he
      obtain ⟨s3, g3⟩ := new2 (.lst [V.ref e]) hu
      have s23 := s2.trans s3
      refine ⟨_, rfl, q, rfl, ⟨_, SqL.of (s23 _ _ g1)⟩, fun D hD => lc_acc (K := K) (a := q) (xs := zs) hD (SqL.of (s23 _ _ g1)) (by omega) (fun j acc H' => ∀ y ∈ acc, y ≠ .ref D ∧ LotV TT H' y) (fun _ _ y hy => by cases hy) ?_ ?_⟩
      · rintro j x acc H4 N N0 hx s4 hacc hI hN hN0
        obtain ⟨c, hc, hr⟩ := paired_get hS hx
        have hr := (hr.same s23).same s4
        refine gnE ⟨rfl, _, rfl, (by show 1 ≤ sizeLine; decide), fun l hl => ?_⟩
        obtain ⟨s5, g5⟩ := new2 (.lst [x]) hl
        have lD : V.ref l ≠ .ref D := fun z => by
          cases z
          rw [hacc] at hl
          cases hl
        refine hN _ _ s5 fun H6 b6 _ y hy => ?_
        have hacc5 := s5 _ _ hacc
        rcases List.mem_append.mp hy with hy | hy
        · exact ⟨(hI y hy).1, ((hI y hy).2.same s5).but hacc5 b6 (hI y hy).1⟩
        · rw [List.mem_singleton.mp hy]
          exact ⟨lD, LotV.but hacc5 b6 lD ⟨l, [x], [c], rfl, g5, .cons (hr.same s5) .nil, by show 1 ≤ 14; decide, fun s hs => by rw [List.mem_singleton.mp hs]; exact List.mem_of_getElem? hc⟩⟩
      · rintro acc H4 s4 hacc hal hI
        refine ⟨u, D, _, _, rfl, rfl, s4 _ _ g3, hacc, line_of (by show 1 + acc.length ≤ _; omega), fun v hv => ?_⟩
        obtain ⟨s5, g5⟩ := new2 (.lst ([V.ref e] ++ acc)) hv
        have e5 := s23.trans (s4.trans s5)
        refine hR _ _ ⟨v, _, rfl, none_of (s23.trans s4) hv, e5, g5, by rw [List.length_append]; show 1 + acc.length ≤ 37; omega, fun y hy => ?_⟩
        have vne : ∀ {l xs}, H4 l = some (.lst xs) → V.ref l ≠ .ref v := fun h z => by
          cases z
          rw [h] at hv
          cases hv
        rcases List.mem_append.mp hy with hy | hy
        · rw [List.mem_singleton.mp hy]
          have ge := s4 _ _ (s3 _ _ g2)
          exact ⟨vne ge, e, [], [], rfl, s5 _ _ ge, .nil, by show 0 ≤ 14; decide, fun s hs => by cases hs⟩
        · obtain ⟨_, l, ss, lot, rfl, h1, h2, h3, h4⟩ := hI y hy
          exact ⟨vne h1, l, ss, lot, rfl, s5 _ _ h1, Paired.mapP h2 fun _ _ z => z.same s5, h3, h4⟩
    obtain ⟨LL0, ls0, rfl, hLL0, s2, g2, hl0, hy0⟩ := hv
    -- couples and threes
    have gq := s2 _ _ g1
    have e2 := s1.trans s2
    refine ⟨_, rfl, _, _, rfl, .inl (SqL.of gq), _, rfl, by omega, by omega, for_upto (lo := 0) (L := zs.length) (by omega) (fun i σ H' => ∃ LL ls v5 v6, σ = [some (.ref sa), some (.int TT), some (.ref q), none, some (.ref LL), v5, v6, none, none, none] ∧ Same H1 H' ∧ H1 LL = none ∧ H' LL = some (.lst ls) ∧ ls.length ≤ 37 + i * 1332 ∧ ∀ y ∈ ls, y ≠ .ref LL ∧ LotV TT H' y) ⟨LL0, ls0, _, _, rfl, s2, hLL0, g2, by omega, hy0⟩ ?_ ?_⟩
    · rintro i σ H3 hi ⟨LL, ls, v5, v6, rfl, e3, hLL, hls, hll, hys⟩
      have z1 : (0 : Int) + (i : Int) = (i : Int) := by omega
      rw [z1]
      refine gnE ?_
      obtain ⟨xi, hxi⟩ : ∃ x, zs[i]? = some x := ⟨zs[i], List.getElem?_eq_getElem hi⟩
      obtain ⟨ci, hci, hri⟩ := paired_get hS hxi
      refine ⟨_, rfl, _, rfl, by omega, by omega, for_upto (lo := 0) (L := i) (by omega) (fun j σ H' => ∃ LL ls v6, σ = [some (.ref sa), some (.int TT), some (.ref q), none, some (.ref LL), some (.int (i : Int)), v6, none, none, none] ∧ Same H1 H' ∧ H1 LL = none ∧ H' LL = some (.lst ls) ∧ ls.length ≤ 37 + i * 1332 + j * 37 ∧ ∀ y ∈ ls, y ≠ .ref LL ∧ LotV TT H' y) ⟨LL, ls, _, rfl, e3, hLL, hls, by omega, hys⟩ ?_ ?_⟩
      · rintro j σ H4 hj ⟨LL, ls, v6, rfl, e4, hLL, hls, hll, hys⟩
        have z2 : (0 : Int) + (j : Int) = (j : Int) := by omega
        rw [z2]
        refine gnE ?_
        obtain ⟨xj, hxj⟩ : ∃ x, zs[j]? = some x := ⟨zs[j]'(by omega), List.getElem?_eq_getElem _⟩
        obtain ⟨cj, hcj, hrj⟩ := paired_get hS hxj
        have gq4 := e4 _ _ g1
        have bnd : 37 + i * 1332 + j * 37 + 37 ≤ 60000 := by
          have : i * 1332 ≤ 36 * 1332 := Nat.mul_le_mul_right _ (by omega)
          have : j * 37 ≤ 36 * 37 := Nat.mul_le_mul_right _ (by omega)
          omega
        refine ⟨_, rfl, .inl ⟨rfl, _, SqL.of hls⟩, _, rfl, _, rfl, q, zs, _, xi, rfl, rfl, SqL.of gq4, at_of rfl hxi, _, rfl, _, rfl, q, zs, _, xj, rfl, rfl, SqL.of gq4, at_of rfl hxj, (by show 2 ≤ sizeLine; decide), fun l hl => ?_⟩
        obtain ⟨s5, g5⟩ := new2 (.lst [xi, xj]) hl
        have hls5 := s5 _ _ hls
        refine ⟨LL, ls, _, rfl, rfl, hls5, line_lt (by omega), ?_⟩
        have lLL : V.ref l ≠ .ref LL := fun z => by
          cases z
          rw [hls] at hl
          cases hl
        have e6 : Same H1 (upd (upd H4 l (.lst [xi, xj])) LL (.lst (ls ++ [V.ref l]))) := same_mut (e4.trans s5) hLL
        have b6 : But LL (upd H4 l (.lst [xi, xj])) (upd (upd H4 l (.lst [xi, xj])) LL (.lst (ls ++ [V.ref l]))) := (But.refl _ _).upd
        have g6 : upd (upd H4 l (.lst [xi, xj])) LL (.lst (ls ++ [V.ref l])) LL = some (.lst (ls ++ [V.ref l])) := upd_same
        generalize upd (upd H4 l (.lst [xi, xj])) LL (.lst (ls ++ [V.ref l])) = H6 at e6 b6 g6 ⊢
        have hin : ∀ {c}, c ∈ strL TT → c ∈ strL TT := fun h => h
        have hy6 : ∀ y ∈ ls ++ [V.ref l], y ≠ .ref LL ∧ LotV TT H6 y := fun y hy => by
          rcases List.mem_append.mp hy with hy | hy
          · exact ⟨(hys y hy).1, ((hys y hy).2.same s5).but hls5 b6 (hys y hy).1⟩
          · rw [List.mem_singleton.mp hy]
            refine ⟨lLL, LotV.but hls5 b6 lLL ⟨l, _, [ci, cj], rfl, g5, .cons ((hri.same e4).same s5) (.cons ((hrj.same e4).same s5) .nil), by show 2 ≤ 14; decide, fun s hs => ?_⟩⟩
            simp only [List.mem_cons, List.not_mem_nil, or_false] at hs
            rcases hs with rfl | rfl
            · exact List.mem_of_getElem? hci
            · exact List.mem_of_getElem? hcj
        have hl6 : (ls ++ [V.ref l]).length ≤ 37 + i * 1332 + j * 37 + 1 := by rw [List.length_append]; show ls.length + 1 ≤ _; omega
        refine ⟨_, rfl, _, _, rfl, rfl, _, rfl, ite2 (fun c => ?_) (fun c => ?_)⟩
        · have gq6 := e6 _ _ g1
          refine ⟨_, rfl, _, rfl, _, rfl, by omega, by omega, fun D hD => lc_upto (lo := 0) (L := j) (by omega) hD (by omega) (fun m acc H' => ∀ y ∈ acc, y ≠ .ref D ∧ LotV TT H' y) (fun _ _ y hy => by cases hy) ?_ ?_⟩
          · rintro m acc H7 N N0 hm s7 hacc hI hN hN0
            have gq7 := s7 _ _ gq6
            have e7 := e6.trans s7
            obtain ⟨xk, hxk⟩ : ∃ x, zs[m]? = some x := ⟨zs[m]'(by omega), List.getElem?_eq_getElem _⟩
            obtain ⟨ck, hck, hrk⟩ := paired_get hS hxk
            refine gnE ⟨rfl, _, rfl, _, rfl, q, zs, _, xk, rfl, rfl, SqL.of gq7, at_of (by omega) hxk, _, rfl, _, rfl, q, zs, _, xi, rfl, rfl, SqL.of gq7, at_of rfl hxi, _, rfl, _, rfl, q, zs, _, xj, rfl, rfl, SqL.of gq7, at_of rfl hxj, (by show 3 ≤ sizeLine; decide), fun l' hl' => ?_⟩
            obtain ⟨s8, g8⟩ := new2 (.lst [xk, xi, xj]) hl'
            have lD : V.ref l' ≠ .ref D := fun z => by
              cases z
              rw [hacc] at hl'
              cases hl'
            refine hN _ _ s8 fun H9 b9 _ y hy => ?_
            have hacc8 := s8 _ _ hacc
            have e8 := e7.trans s8
            rcases List.mem_append.mp hy with hy | hy
            · exact ⟨(hI y hy).1, ((hI y hy).2.same s8).but hacc8 b9 (hI y hy).1⟩
            · rw [List.mem_singleton.mp hy]
              refine ⟨lD, LotV.but hacc8 b9 lD ⟨l', _, [ck, ci, cj], rfl, g8, .cons (hrk.same e8) (.cons (hri.same e8) (.cons (hrj.same e8) .nil)), by show 3 ≤ 14; decide, fun s hs => ?_⟩⟩
              simp only [List.mem_cons, List.not_mem_nil, or_false] at hs
              rcases hs with rfl | rfl | rfl
              · exact List.mem_of_getElem? hck
              · exact List.mem_of_getElem? hci
              · exact List.mem_of_getElem? hcj
          · rintro acc H7 s7 hacc hal hI
            refine ⟨LL, D, _, _, rfl, rfl, s7 _ _ g6, hacc, line_of (by omega), fun v hv => ?_⟩
            obtain ⟨s8, g8⟩ := new2 (.lst (ls ++ [V.ref l] ++ acc)) hv
            refine ⟨v, _, _, rfl, e6.trans (s7.trans s8), none_of (e6.trans s7) hv, g8, ?_, fun y hy => ?_⟩
            · rw [List.length_append, Nat.succ_mul]
              omega
            · have vne : ∀ {l xs}, H7 l = some (.lst xs) → V.ref l ≠ .ref v := fun h z => by
                cases z
                rw [h] at hv
                cases hv
              rcases List.mem_append.mp hy with hy | hy
              · obtain ⟨_, l1, ss, lot, rfl, h1, h2, h3, h4⟩ := hy6 y hy
                exact ⟨vne (s7 _ _ h1), l1, ss, lot, rfl, s8 _ _ (s7 _ _ h1), Paired.mapP h2 fun _ _ z => (z.same s7).same s8, h3, h4⟩
              · obtain ⟨_, l1, ss, lot, rfl, h1, h2, h3, h4⟩ := hI y hy
                exact ⟨vne h1, l1, ss, lot, rfl, s8 _ _ h1, Paired.mapP h2 fun _ _ z => z.same s8, h3, h4⟩
        · refine ⟨LL, _, _, rfl, e6, hLL, g6, ?_, hy6⟩
          rw [Nat.succ_mul]
          omega
      · rintro σ H4 ⟨LL, ls, v6, rfl, e4, hLL, hls, hll, hys⟩
        refine ⟨LL, ls, _, _, rfl, e4, hLL, hls, ?_, hys⟩
        rw [Nat.succ_mul]
        omega
    · rintro σ H3 ⟨LL, ls, v5, v6, rfl, e3, hLL, hls, hll, hys⟩
      have hll : ls.length ≤ 60000 := by
        have : zs.length * 1332 ≤ 36 * 1332 := Nat.mul_le_mul_right _ (by omega)
        omega
      have st3 := st1.same e3
      have LLsa : LL ≠ sa := fun z => st1.ne (by rw [← z]; exact hLL)
      refine ⟨_, rfl, by decide, by decide, for_upto (lo := 0) (L := 12) rfl (fun i σ H' => ∃ v8 ls, σ = [some (.ref sa), some (.int TT), some (.ref q), none, some (.ref LL), v5, v6, none, v8, none] ∧ But sa H1 H' ∧ Stk H' sa ∧ H' LL = some (.lst ls) ∧ ls.length ≤ 60000 + i ∧ ∀ y ∈ ls, y ≠ .ref LL ∧ LotV TT H' y) ⟨_, ls, rfl, But.of e3, st3, hls, by omega, hys⟩ ?_ ?_⟩
      · rintro i σ H4 hi ⟨v8, ls, rfl, b4, st4, hls, hll, hys⟩
        refine gnE ?_
        obtain ⟨x1, y1, z1, hst1⟩ := id st1
        refine ⟨_, rfl, .inl ⟨rfl, _, SqL.of hls⟩, _, rfl, sa, 12, rfl, by decide, by decide, st4, fun r a b c r0 r1 => ⟨_, _, rfl, rfl, ?_⟩⟩
        obtain ⟨b5, st5⟩ := drew (H := H4) (sa := sa) a b c
        generalize upd H4 sa (stk a b c) = H5 at b5 st5 ⊢
        refine ⟨_, rfl, by omega, by omega, fun D hD => lc_uptoB (lo := 0) (L := (3 + r).toNat) (sa := sa) (by omega) hD st5.ne (by omega) (fun m acc H' => ∃ lot, Paired (PairT H') acc lot ∧ lot.length = m ∧ (∀ s ∈ lot, s ∈ strL TT) ∧ Stk H' sa) (fun H' s' => ⟨[], .nil, rfl, (fun s hs => by cases hs), st5.same s'⟩) ?_ ?_⟩
        · rintro m acc H6 N N0 hm b6 hacc ⟨lot, hp, hl, hm', st6⟩ hN hN0
          have b46 := b4.trans (b5.trans b6)
          have gq6 := b46 _ _ g1 qsa
          refine gnE ⟨rfl, ?_⟩
          refine ⟨_, rfl, _, rfl, _, rfl, _, _, rfl, .inl (SqL.of gq6), sa, _, rfl, by omega, by omega, st6, fun u a b c u0 u1 => ?_⟩
          obtain ⟨b7, st7⟩ := drew (H := H6) (sa := sa) a b c
          obtain ⟨n, rfl⟩ : ∃ n : Nat, u = (n : Int) := ⟨u.toNat, by omega⟩
          obtain ⟨x, hx⟩ : ∃ x, zs[n]? = some x := ⟨zs[n]'(by omega), List.getElem?_eq_getElem _⟩
          obtain ⟨cx, hcx, hrx⟩ := paired_get hS hx
          have Dsa : D ≠ sa := fun z => st5.ne (by rw [← z]; exact hD)
          have hacc7 := b7 _ _ hacc Dsa
          obtain ⟨x6, y6, z6, hst6⟩ := id st6
          refine ⟨q, zs, _, x, rfl, rfl, SqL.of (b7 _ _ gq6 qsa), at_of rfl hx, hN _ _ b7 fun H8 b8 _ => ⟨lot ++ [cx], Paired.snoc (Paired.mapP hp fun _ _ z => (z.but hst6 b7).but hacc7 b8) (((hrx.but hst1 b46).but hst6 b7).but hacc7 b8), by rw [List.length_append, hl]; rfl, fun s hs => ?_, ?_⟩⟩
          · rcases List.mem_append.mp hs with hs | hs
            · exact hm' s hs
            · rw [List.mem_singleton.mp hs]
              exact List.mem_of_getElem? hcx
          · obtain ⟨x, y, z, h⟩ := st7
            exact ⟨x, y, z, b8 _ _ h Dsa.symm⟩
        · rintro acc H6 b6 hacc hal ⟨lot, hp, hl, hm', st6⟩
          have b56 := b5.trans b6
          have hls6 := b56 _ _ hls LLsa
          obtain ⟨x4, y4, z4, hst4⟩ := id st4
          refine ⟨LL, ls, _, rfl, rfl, hls6, line_lt (by omega), ?_⟩
          have DLL : V.ref D ≠ .ref LL := fun z => by
            cases z
            rw [b5 _ _ hls LLsa] at hD
            cases hD
          have bL : But LL H6 (upd H6 LL (.lst (ls ++ [V.ref D]))) := (But.refl _ _).upd
          have ys6 : ∀ y ∈ ls, y ≠ .ref LL ∧ LotV TT H6 y := fun y hy => ⟨(hys y hy).1, (hys y hy).2.butS st4 b56⟩
          refine ⟨_, ls ++ [V.ref D], rfl, (b4.trans b56).mut hLL, st6.but LLsa.symm, upd_same, by rw [List.length_append]; show ls.length + 1 ≤ _; omega, fun y hy => ?_⟩
          rcases List.mem_append.mp hy with hy | hy
          · exact ⟨(ys6 y hy).1, (ys6 y hy).2.but hls6 bL (ys6 y hy).1⟩
          · rw [List.mem_singleton.mp hy]
            exact ⟨DLL, LotV.but hls6 bL DLL ⟨D, acc, lot, rfl, hacc, hp, by omega, hm'⟩⟩
      · rintro σ H4 ⟨v8, ls, rfl, b4, st4, hls, hll, hys⟩
        exact ⟨_, rfl, k LL ls H4 ((But.of s1).trans b4) st4 hls LLsa (by omega) fun y hy => (hys y hy).2⟩
end
end K27
end
section
set_option maxRecDepth 100000
set_option maxHeartbeats 4000000
namespace K27
open PySem PySem.Spec PyProof.Rows L2
section
variable {P : Program} {w : World} {K : PySem.W.Frag} {mg : Str → Option Value} {base : Heap}
def spBadLot : Sp := fun vs H Q _ => ∃ (T : Nat) (sa l : Addr) (ss : List V) (lot : List (Int × Int)), vs = [.ref sa, .int T, .ref l] ∧ Stk H sa ∧ H l = some (.lst ss) ∧ Paired (PairT H) ss lot ∧ lot.length ≤ 13 ∧ 1 ≤ T ∧ T ≤ 24 ∧ (∀ s ∈ lot, StrOk T s) ∧
  ∀ t b x bs lt (n : Nat) s H', But sa H H' → Stk H' sa → H' t = some (.tup [.ref b, x]) → H' b = some (.lst bs) → Paired (PairT H') bs lt → lt.length ≤ 14 → lt[n]? = some s → PairT H' x s → ¬ StrOk T s → (∀ (m : Nat) s', m < n → lt[m]? = some s' → StrOk T s') → Q (.ref t) H'
theorem ok__law_bad_lot (T : Txt w K mg) : Ok P w K mg base CX0 2 "_law_bad_lot" ["stock", "days", "lot"] spBadLot := by
  refine Ok.def0 (f__law_bad_lot T) (fun _ _ _ _ _ _ us hl => match us, hl with | [_, _, _], _ => rfl) sc__law_bad_lot (fun vs H Q E h => ?_) (fun f cdv A outer s H vs Q E hr h => ?_)
  · obtain ⟨TT, sa, l, ss, lot, rfl, _⟩ := h
    rfl
  · obtain ⟨TT, sa, l, ss, lot, rfl, hst, hl, hP, hll, hT1, hT, hok, k⟩ := h
    refine ⟨_, (pss_cons (ps_set (i := 3) sc__law_bad_lot.nd rfl (by first | exact Or.inl rfl | exact Or.inr rfl) (pe_op op_cat (pe_callTy (list_ofK (K := K) rfl) rfl (n_list T) (by decide +kernel) (pa_cons (pv 2) pa_nil)) (pe_lst (pa_cons (pe_tup (pa_cons pe_int (pa_cons (pv 1) pa_nil))) pa_nil))))
      (pss_cons (ps_setLc (i := 5) (own := [("turn", 4)]) rfl sc__law_bad_lot.nd rfl rfl (sw_true rfl rfl rfl (by decide +kernel)) (pi_range1 rfl (n_range T) (pa_cons (pe_op op_add pe_int (pe_ok (ok__law_draw T) (hr.mono (by first | decide | omega)) rfl pass0 (pa_cons (pv 0) (pa_cons pe_int pa_nil)))) pa_nil)) (blkOk_by (N := ["stock", "days", "lot", "bent", "turn", "places", "place", "a"]) (sc := defScope s__law_bad_lot) (by decide +kernel)) (fun _ _ _ _ _ => (pg_name (i := 4) sc__law_bad_lot.nd rfl (by first | exact Or.inl rfl | exact Or.inr rfl))) (fun _ _ _ _ _ => pts_nil) (fun _ _ _ _ _ => (pe_ok (ok__law_draw T) (hr.mono (by first | decide | omega)) rfl pass0 (pa_cons (pv 0) (pa_cons (pe_callB (len_seqK (K := K) rfl) rfl (n_len T) (by decide +kernel) (pa_cons (pv 3) pa_nil)) pa_nil)))))
      (pss_cons (ps_for PassesOwn.never rfl (pi_listK (K := K) rfl (pv 5)) (pg_name (i := 6) sc__law_bad_lot.nd rfl (by first | exact Or.inl rfl | exact Or.inr rfl))
        (pss_cons (ps_set (i := 7) sc__law_bad_lot.nd rfl (by first | exact Or.inl rfl | exact Or.inr rfl) (pe_ok (ok__law_draw T) (hr.mono (by first | decide | omega)) rfl pass0 (pa_cons (pv 0) (pa_cons (pe_op op_add (pv 1) pe_int) pa_nil))))
      (pss_one (ps_asg (pe_ix (ix_listK (K := K) rfl) (pe_lst (pa_cons (pe_tup (pa_cons (pv 7) (pa_cons (pv 7) pa_nil))) (pa_cons (pe_tup (pa_cons (pe_op op_add (pv 7) pe_int) (pa_cons (pv 7) pa_nil))) (pa_cons (pe_tup (pa_cons (pe_un un_neg pe_int) (pa_cons (pv 1) pa_nil))) (pa_cons (pe_tup (pa_cons pe_int (pa_cons (pe_op op_add (pv 1) pe_int) pa_nil))) (pa_cons (pe_tup (pa_cons (pv 1) (pa_cons (pe_op op_add (pe_op op_add (pv 1) pe_int) (pv 7)) pa_nil))) pa_nil)))))) (pe_ok (ok__law_draw T) (hr.mono (by first | decide | omega)) rfl pass0 (pa_cons (pv 0) (pa_cons pe_int pa_nil))) (fun _ _ => rfl)) (pg_sub (pv 3) (pv 6) set_list)))))
      (pss_one (ps_ret (pe_tup (pa_cons (pv 3) (pa_cons (pe_ix (ix_listK (K := K) rfl) (pv 3) (pe_callB (minK (K := K) rfl rfl) rfl (n_min T) (by decide +kernel) (pa_cons (pv 5) pa_nil)) (fun _ _ => rfl)) pa_nil)))))))), ?_⟩
    have hsl : ss.length = lot.length := Paired.length hP
    refine ⟨_, rfl, l, ss, rfl, .inl (SqL.of hl), fun b0 hb0 => ⟨_, rfl, (by show 2 ≤ sizeLine; decide), fun t ht => ⟨(by show 1 ≤ sizeLine; decide), fun u hu => ?_⟩⟩⟩
    obtain ⟨s1, g1⟩ := new2 (.lst ss) hb0
    obtain ⟨s2, g2⟩ := new2 (.tup [.int 0, .int (TT : Int)]) ht
    obtain ⟨s3, g3⟩ := new2 (.lst [V.ref t]) hu
    have s23 := s2.trans s3
    refine ⟨b0, u, _, _, rfl, rfl, s23 _ _ g1, g3, line_of (by show ss.length + 1 ≤ _; omega), fun v hv => ?_⟩
    obtain ⟨s4, g4⟩ := new2 (.lst (ss ++ [V.ref t])) hv
    have e4 := s1.trans (s23.trans s4)
    have hP4 : Paired (PairT (upd (upd (upd (upd H b0 (.lst ss)) t (.tup [.int 0, .int (TT : Int)])) u (.lst [V.ref t])) v (.lst (ss ++ [V.ref t])))) (ss ++ [V.ref t]) (lot ++ [((0 : Int), (TT : Int))]) := Paired.snoc (Paired.mapP hP fun _ _ z => z.same e4) ⟨t, rfl, s4 _ _ (s3 _ _ g2)⟩
    have hv0 : H v = none := none_of (s1.trans s23) hv
    generalize upd (upd (upd (upd H b0 (.lst ss)) t (.tup [.int 0, .int (TT : Int)])) u (.lst [V.ref t])) v (.lst (ss ++ [V.ref t])) = H4 at s4 g4 e4 hP4 ⊢
    have st4 := hst.same e4
    have vsa : v ≠ sa := fun z => hst.ne (by rw [← z]; exact hv0)
    have hok4 : ∀ (i : Nat) (c : Int × Int), (lot ++ [((0 : Int), (TT : Int))])[i]? = some c → StrOk TT c := fun i c h => by
      rcases List.mem_append.mp (List.mem_of_getElem? h) with h | h
      · exact hok c h
      · rw [List.mem_singleton.mp h]
        unfold StrOk
        show (0 : Int) ≤ 0 ∧ (TT : Int) ≤ TT ∧ (0 : Int) < TT
        omega
    have hn0 : (ss ++ [V.ref t]).length = lot.length + 1 := by rw [List.length_append, hsl]; rfl
    have hn1 : (lot ++ [((0 : Int), (TT : Int))]).length = lot.length + 1 := by rw [List.length_append]; rfl
    generalize ss ++ [V.ref t] = bs0 at g4 hP4 hn0 ⊢
    generalize lot ++ [((0 : Int), (TT : Int))] = lt0 at hP4 hok4 hn1
    -- places
    refine ⟨_, rfl, sa, 2, rfl, by decide, by decide, st4, fun tn a1 b1 c1 t0 t1 => ⟨_, _, rfl, rfl, ?_⟩⟩
    obtain ⟨b5, st5⟩ := drew (H := H4) (sa := sa) a1 b1 c1
    generalize upd H4 sa (stk a1 b1 c1) = H5 at b5 st5 ⊢
    refine ⟨_, rfl, by omega, by omega, fun D hD => lc_uptoB (lo := 0) (L := (1 + tn).toNat) (sa := sa) (by omega) hD st5.ne (by omega) (fun j acc H' => ∃ ks : List Int, acc = ks.map V.int ∧ ks.length = j ∧ (∀ z ∈ ks, 0 ≤ z ∧ z < ((lot.length + 1 : Nat) : Int)) ∧ Stk H' sa) (fun H' s' => ⟨[], rfl, rfl, (fun z h => by cases h), st5.same s'⟩) ?_ ?_⟩
    · rintro j acc H6 N N0 hj b6 hacc ⟨ks, rfl, hkl, hks, st6⟩ hN hN0
      refine gnE ⟨rfl, ?_⟩
      have g6 : H6 v = some (.lst bs0) := b6 _ _ (b5 _ _ g4 vsa) vsa
      refine ⟨_, rfl, _, rfl, _, _, rfl, .inl (SqL.of g6), sa, _, rfl, by omega, by omega, st6, fun r a b c r0 r1 => ?_⟩
      have Dsa : D ≠ sa := fun z => st5.ne (by rw [← z]; exact hD)
      obtain ⟨b7, st7⟩ := drew (H := H6) (sa := sa) a b c
      refine hN _ _ b7 fun H8 b8 _ => ⟨ks ++ [r], by rw [List.map_append]; rfl, by rw [List.length_append, hkl]; rfl, fun z hz => ?_, ?_⟩
      · rcases List.mem_append.mp hz with hz | hz
        · exact hks z hz
        · rw [List.mem_singleton.mp hz]
          omega
      · obtain ⟨x, y, z, h⟩ := st7
        exact ⟨x, y, z, b8 _ _ h Dsa.symm⟩
    · rintro acc H6 b6 hacc hal ⟨ks, rfl, hkl, hks, st6⟩
      have b46 := b5.trans b6
      have g6 := b46 _ _ g4 vsa
      obtain ⟨x4, y4, z4, hst4⟩ := id st4
      have hP6 := Paired.mapP hP4 fun _ _ z => z.but hst4 b46
      have Dv : D ≠ v := fun z => by
        have := b5 _ _ g4 vsa
        rw [← z, hD] at this
        cases this
      have Dsa : D ≠ sa := fun z => st5.ne (by rw [← z]; exact hD)
      have c6 : But sa H H6 := (But.of e4).trans b46
      clear b6 b5 hD b46
      refine ⟨_, rfl, D, rfl, ⟨_, SqL.of hacc⟩, for_list (K := K) (a := D) (xs := ks.map V.int) (fun j σ H' => ∃ v6 v7 bs lt, σ = [some (.ref sa), some (.int TT), some (.ref l), some (.ref v), none, some (.ref D), v6, v7] ∧ But sa H H' ∧ Stk H' sa ∧ H' D = some (.lst (ks.map V.int)) ∧ H' v = some (.lst bs) ∧ Paired (PairT H') bs lt ∧ lt.length = lot.length + 1 ∧ ∀ (i : Nat) (c : Int × Int), lt[i]? = some c → (((i : Nat) : Int) ∈ ks.take j → ¬ StrOk TT c) ∧ (((i : Nat) : Int) ∉ ks.take j → StrOk TT c)) ⟨_, _, bs0, lt0, rfl, c6, st6, hacc, g6, hP6, hn1, fun i c h => ⟨fun z => by simp at z, fun _ => hok4 i c h⟩⟩ (fun _ _ _ _ ⟨_, _, _, _, _, _, _, z, _⟩ => SqL.of z) ?_ ?_⟩
      · rintro j x σ H7 hx ⟨v6, v7, bs, lt, rfl, e7, st7, hD7, hv7, hP7, hlt, hsp⟩
        obtain ⟨z, hz, rfl⟩ := ints_get hx
        obtain ⟨z0, z1⟩ := hks z (List.mem_of_getElem? hz)
        obtain ⟨n, rfl⟩ : ∃ n : Nat, z = (n : Int) := ⟨z.toNat, by omega⟩
        refine gnE ?_
        refine ⟨_, rfl, _, rfl, _, _, rfl, rfl, sa, _, rfl, by omega, by omega, st7, fun r a b c r0 r1 => ?_⟩
        obtain ⟨b8, st8⟩ := drew (H := H7) (sa := sa) a b c
        generalize upd H7 sa (stk a b c) = H8 at b8 st8 ⊢
        refine ⟨_, rfl, _, rfl, (by show 2 ≤ sizeLine; decide), fun t1 h1 => ⟨_, rfl, _, _, rfl, rfl, _, rfl, (by show 2 ≤ sizeLine; decide), fun t2 h2 => ⟨_, rfl, _, rfl, (by show 2 ≤ sizeLine; decide), fun t3 h3 => ⟨_, rfl, _, _, rfl, rfl, (by show 2 ≤ sizeLine; decide), fun t4 h4 => ⟨_, rfl, _, rfl, _, _, rfl, rfl, _, rfl, _, _, rfl, rfl, (by show 2 ≤ sizeLine; decide), fun t5 h5 => ⟨(by show 5 ≤ sizeLine; decide), fun cl hcl => ?_⟩⟩⟩⟩⟩⟩
        obtain ⟨q1, w1⟩ := new2 (.tup [.int r, .int r]) h1
        obtain ⟨q2, w2⟩ := new2 (.tup [(fun (i j : Int) => V.int (i + j)) r 1, .int r]) h2
        obtain ⟨q3, w3⟩ := new2 (.tup [(fun (i : Int) => V.int (-i)) 1, .int (TT : Int)]) h3
        obtain ⟨q4, w4⟩ := new2 (.tup [.int 0, (fun (i j : Int) => V.int (i + j)) (TT : Int) 1]) h4
        obtain ⟨q5, w5⟩ := new2 (.tup [.int (TT : Int), (fun (i j : Int) => V.int (i + j)) ((TT : Int) + 1) r]) h5
        obtain ⟨q6, w6⟩ := new2 (.lst [V.ref t1, V.ref t2, V.ref t3, V.ref t4, V.ref t5]) hcl
        have w1 := q6 _ _ (q5 _ _ (q4 _ _ (q3 _ _ (q2 _ _ w1))))
        have w2 := q6 _ _ (q5 _ _ (q4 _ _ (q3 _ _ w2)))
        have w3 := q6 _ _ (q5 _ _ (q4 _ _ w3))
        have w4 := q6 _ _ (q5 _ _ w4)
        have w5 := q6 _ _ w5
        have qq := q1.trans (q2.trans (q3.trans (q4.trans (q5.trans q6))))
        generalize upd _ cl (.lst [V.ref t1, V.ref t2, V.ref t3, V.ref t4, V.ref t5]) = H9 at w1 w2 w3 w4 w5 w6 qq ⊢
        have st9 := st8.same qq
        refine ⟨_, rfl, sa, 5, rfl, by decide, by decide, st9, fun u a b c u0 u1 => ?_⟩
        obtain ⟨b10, st10⟩ := drew (H := H9) (sa := sa) a b c
        generalize upd H9 sa (stk a b c) = H10 at b10 st10 ⊢
        have csa : cl ≠ sa := fun z => by
          obtain ⟨x, y, z', h⟩ := st9
          rw [z, h] at w6
          cases w6
        obtain ⟨y, cc, hu, hcc, hgc⟩ : ∃ y cc, ([V.ref t1, V.ref t2, V.ref t3, V.ref t4, V.ref t5])[u.toNat]? = some y ∧ PairT H9 y cc ∧ ¬ StrOk TT cc := by
          obtain rfl | rfl | rfl | rfl | rfl : u = 0 ∨ u = 1 ∨ u = 2 ∨ u = 3 ∨ u = 4 := by omega
          · exact ⟨_, (r, r), rfl, ⟨t1, rfl, w1⟩, by unfold StrOk; show ¬ (0 ≤ r ∧ r ≤ (TT : Int) ∧ r < r); omega⟩
          · exact ⟨_, (r + 1, r), rfl, ⟨t2, rfl, w2⟩, by unfold StrOk; show ¬ (0 ≤ r + 1 ∧ r ≤ (TT : Int) ∧ r + 1 < r); omega⟩
          · exact ⟨_, (-1, (TT : Int)), rfl, ⟨t3, rfl, w3⟩, by unfold StrOk; show ¬ ((0 : Int) ≤ -1 ∧ _); omega⟩
          · exact ⟨_, (0, (TT : Int) + 1), rfl, ⟨t4, rfl, w4⟩, by unfold StrOk; show ¬ ((0 : Int) ≤ 0 ∧ (TT : Int) + 1 ≤ (TT : Int) ∧ _); omega⟩
          · exact ⟨_, ((TT : Int), (TT : Int) + 1 + r), rfl, ⟨t5, rfl, w5⟩, by unfold StrOk; show ¬ ((0 : Int) ≤ (TT : Int) ∧ (TT : Int) + 1 + r ≤ (TT : Int) ∧ _); omega⟩
        obtain ⟨x9, y9, z9, hst9⟩ := id st9
        obtain ⟨x7, y7, z7, hst7⟩ := id st7
        have hcc := hcc.but hst9 b10
        refine ⟨cl, _, u, y, rfl, rfl, SqL.of (b10 _ _ w6 csa), atI_int u0 hu, ?_⟩
        have b710 : But sa H7 H10 := b8.trans ((But.of qq).trans b10)
        have hv10 := b710 _ _ hv7 vsa
        have hD10 := b710 _ _ hD7 Dsa
        have hP10 := Paired.mapP hP7 fun _ _ z => z.but hst7 b710
        have hbl : bs.length = lt.length := Paired.length hP7
        refine ⟨_, rfl, _, rfl, v, bs, _, n, rfl, rfl, hv10, ix_nat (by omega), ?_⟩
        refine ⟨_, _, bs.set n y, lt.set n cc, rfl, (e7.trans b710).mut hv0, st10.but vsa.symm, by rw [upd_ne Dv]; exact hD10, upd_same, paired_setv (hcc.mut hv10) n (Paired.mapP hP10 fun _ _ z => z.mut hv10), by rw [List.length_set]; exact hlt, fun i c hi => ?_⟩
        rw [take_get hz]
        by_cases ei : i = n
        · subst ei
          rw [List.getElem?_set_self (by omega)] at hi
          cases hi
          exact ⟨fun _ => hgc, fun h => absurd (List.mem_append_right _ (List.mem_singleton.mpr rfl)) h⟩
        · rw [List.getElem?_set_ne (by omega)] at hi
          obtain ⟨p1, p2⟩ := hsp i c hi
          refine ⟨fun h => ?_, fun h => p2 fun h' => h (List.mem_append_left _ h')⟩
          rcases List.mem_append.mp h with h | h
          · exact p1 h
          · have := List.mem_singleton.mp h
            omega
      · rintro σ H7 ⟨v6, v7, bs, lt, rfl, e7, st7, hD7, hv7, hP7, hlt, hsp⟩
        have hkl' : (ks.map V.int).length = ks.length := List.length_map _
        rw [hkl', List.take_length] at hsp
        have hbl : bs.length = lt.length := Paired.length hP7
        refine ⟨_, rfl, _, rfl, _, rfl, D, ks, rfl, SqL.of hD7, by omega, fun m hm hmin => ?_⟩
        obtain ⟨m0, m1⟩ := hks m hm
        obtain ⟨n, rfl⟩ : ∃ n : Nat, m = (n : Int) := ⟨m.toNat, by omega⟩
        obtain ⟨x, hx⟩ : ∃ x, bs[n]? = some x := ⟨bs[n]'(by omega), List.getElem?_eq_getElem _⟩
        obtain ⟨c, hc, hrx⟩ := paired_get hP7 hx
        refine ⟨v, bs, _, x, rfl, rfl, SqL.of hv7, at_of rfl hx, (by show 2 ≤ sizeLine; decide), fun t ht => ?_⟩
        obtain ⟨s8, g8⟩ := new2 (.tup [.ref v, x]) ht
        refine k t v x bs lt n c _ (e7.trans (But.of s8)) (st7.same s8) g8 (s8 _ _ hv7) (Paired.mapP hP7 fun _ _ z => z.same s8) (by omega) hc (hrx.same s8) ((hsp n c hc).1 hm) fun m' s' hm' hs' => (hsp m' s' hs').2 fun hin => ?_
        have := hmin _ hin
        omega
end
end K27
end
section
set_option maxRecDepth 100000
set_option maxHeartbeats 4000000
namespace K27
open PySem PySem.Spec PyProof.Rows L2
theorem _root_.L2.QuadT.but {H H' : Hp} {D : Addr} {ys : List V} (hD : H D = some (.lst ys)) (e : But D H H') {x : V} {c : Q4} (h : QuadT H x c) : QuadT H' x c := by
  obtain ⟨t, rfl, h⟩ := h
  exact ⟨t, rfl, e _ _ h fun z => by rw [z, hD] at h; cases h⟩
theorem via {te : TE} {σ : L2.St} {H : Hp} {K : VK} (PV : V → Hp → Prop) (h : ∀ R : VK, (∀ v H', PV v H' → R v H') → te σ H R) (q : ∀ v H', PV v H' → K v H') : te σ H K := h K q
theorem same_but {H H' H1 H5 : Hp} {p : Addr} (e : Same H H') (n : H' p = none) (s : Same H' H1) (b : But p H1 H5) : Same H H5 := fun c o h => b c o (s _ _ (e _ _ h)) fun z => by rw [← z, e _ _ h] at n; cases n
theorem made {K : PySem.W.Frag} {E : XK} {Q : Addr → Hp → Prop} {H : Hp} {s : Addr} {ys : List V} {rs : List Q4} {d : Int} (hS : H s = some (.lst ys)) (hP : Paired (QuadT H) ys rs) (d1 : 1 ≤ d) (d2 : d ≤ 24) (hl : rs.length ≤ 40) (hg : ∀ r ∈ rs, GoodR r)
    (k : ∀ x H', H x = none → Same H H' → AlmAt K H' x d rs → Q x H') :
    ∀ x dx, H x = none → H dx = none → dx ≠ x → spAInit K (.ref x :: ([.int d, .ref s] ++ [])) (upd (upd H dx (.own x)) x (.ins (cA K) dx [])) (fun v H2 => v = .non ∧ Q x H2) E := by
  intro x dx hx hdx hne
  have s1 : Same H (upd (upd H dx (.own x)) x (.ins (cA K) dx [])) := same_mut (same_new hdx) hx
  exact ⟨x, dx, d, s, ys, rs, rfl, upd_same, s1 _ _ hS, Paired.mapP hP fun _ _ z => z.same s1, d1, d2, hl, hg, fun H' b hA => ⟨rfl, k x H' hx (fun c o hc => b c o (s1 c o hc) (ne_of_none hc hx)) hA⟩⟩
theorem quads_ne {H : Hp} {sa r : Addr} {xs : List V} {rs : List Q4} (hs : Stk H sa) (h : H r = some (.lst xs)) (hp : Paired (QuadT H) xs rs) : r ≠ sa := fun z => by
  obtain ⟨a, b, c, hs⟩ := hs
  rw [z, hs] at h
  have := HO.lst.inj (Option.some.inj h)
  subst this
  cases hp with
  | cons r _ =>
    obtain ⟨q, e, _⟩ := r
    cases e
theorem AlmAt.but {K : PySem.W.Frag} {H H' : Hp} {sa p : Addr} {d : Int} {rs : List Q4} (hs : Stk H sa) (e : But sa H H') (h : AlmAt K H p d rs) : AlmAt K H' p d rs := by
  obtain ⟨dx, l, xs, h1, h2, h3⟩ := h
  obtain ⟨x, y, z, hsa⟩ := id hs
  exact ⟨dx, l, xs, e _ _ h1 (ne_stk hs h1 fun _ z => by cases z), e _ _ h2 (quads_ne hs h2 h3), Paired.mapP h3 fun _ _ z => z.but hsa e⟩
theorem WeaT.but {H H' : Hp} {sa p : Addr} {W : List (List (Int × Int))} (hs : Stk H sa) (e : But sa H H') (h : WeaT H p W) : WeaT H' p W := by
  obtain ⟨xs, h1, h2⟩ := h
  obtain ⟨x, y, z, hsa⟩ := id hs
  refine ⟨xs, e _ _ h1 fun q => ?_, Paired.mapP h2 fun _ _ ⟨l, ys, e1, q1, q2⟩ => ⟨l, ys, e1, e _ _ q1 (rep_ne hs q1 q2), Paired.mapP q2 fun _ _ z => z.but hsa e⟩⟩
  rw [q, hsa] at h1
  have := HO.lst.inj (Option.some.inj h1)
  subst this
  cases h2 with
  | cons r _ =>
    obtain ⟨l, ys, e1, _⟩ := r
    cases e1
theorem bad_uniq {rs : List Q4} {n m : Nat} (h : BadCan rs n) (h' : BadCan rs m) : n = m := by
  obtain ⟨r, h1, h2, h3⟩ := h
  obtain ⟨r', h1', h2', h3'⟩ := h'
  rcases Nat.lt_trichotomy n m with c | c | c
  · exact absurd (h2' n c r h1) h3
  · exact c
  · exact absurd (h2 m c r' h1') h3'
section
variable {P : Program} {w : World} {K : PySem.W.Frag} {mg : Str → Option Value} {base : Heap}
def spBent : Sp := fun vs H Q _ => ∃ (sa a : Addr) (W : List (List (Int × Int))), vs = [.ref sa, .ref a] ∧ Stk H sa ∧ WeaT H a W ∧ 1 ≤ W.length ∧ W.length ≤ 24 ∧ total W ≤ 40 ∧ ∀ p W' H', But sa H H' → Stk H' sa → WeaT H' p W' → W'.length ≤ 25 → total W' ≤ 41 → Q (.ref p) H'
theorem ok__law_bent_weather (T : Txt w K mg) : Ok P w K mg base CX0 2 "_law_bent_weather" ["stock", "weather"] spBent := by
  refine Ok.def0 (f__law_bent_weather T) (fun _ _ _ _ _ _ us hl => match us, hl with | [_, _], _ => rfl) sc__law_bent_weather (fun vs H Q E h => ?_) (fun f cdv A outer s H vs Q E hr h => ?_)
  · obtain ⟨sa, a, W, rfl, _⟩ := h
    rfl
  · obtain ⟨sa, a, W, rfl, hst, ⟨ys, w1, w2⟩, hW1, hW2, htot, k⟩ := h
    refine ⟨_, (pss_cons (ps_setLc (i := 3) (own := [("report", 2)]) rfl sc__law_bent_weather.nd rfl rfl (sw_true rfl rfl rfl (by decide +kernel)) (pi_listK (K := K) rfl (pv 1)) (blkOk_by (N := ["stock", "weather", "report", "bent", "kind", "day", "other", "fall", "place", "at"]) (sc := defScope s__law_bent_weather) (by decide +kernel)) (fun _ _ _ _ _ => (pg_name (i := 2) sc__law_bent_weather.nd rfl (by first | exact Or.inl rfl | exact Or.inr rfl))) (fun _ _ _ _ _ => pts_nil) (fun _ _ _ _ _ => (pe_callTy (list_ofK (K := K) rfl) rfl (n_list T) (by decide +kernel) (pa_cons (pv 2) pa_nil))))
      (pss_cons (ps_set (i := 4) sc__law_bent_weather.nd rfl (by first | exact Or.inl rfl | exact Or.inr rfl) (pe_ok (ok__law_draw T) (hr.mono (by first | decide | omega)) rfl pass0 (pa_cons (pv 0) (pa_cons pe_int pa_nil))))
      (pss_cons (ps_set (i := 5) sc__law_bent_weather.nd rfl (by first | exact Or.inl rfl | exact Or.inr rfl) (pe_ok (ok__law_draw T) (hr.mono (by first | decide | omega)) rfl pass0 (pa_cons (pv 0) (pa_cons (pe_callB (len_seqK (K := K) rfl) rfl (n_len T) (by decide +kernel) (pa_cons (pv 3) pa_nil)) pa_nil))))
      (pss_cons (ps_set (i := 2) sc__law_bent_weather.nd rfl (by first | exact Or.inl rfl | exact Or.inr rfl) (pe_ix (ix_listK (K := K) rfl) (pv 3) (pv 5) (fun _ _ => rfl)))
      (pss_cons (ps_set (i := 6) sc__law_bent_weather.nd rfl (by first | exact Or.inl rfl | exact Or.inr rfl) (pe_ix (ix_listK (K := K) rfl) (pv 3) (pe_ok (ok__law_draw T) (hr.mono (by first | decide | omega)) rfl pass0 (pa_cons (pv 0) (pa_cons (pe_callB (len_seqK (K := K) rfl) rfl (n_len T) (by decide +kernel) (pa_cons (pv 3) pa_nil)) pa_nil))) (fun _ _ => rfl)))
      (pss_cons (ps_if (pt_cmpR op_eq (pv 4) pe_int (nomark _)) (pss_one (ps_ret (pe_slice (sl_listK (K := K) rfl) (pv 3) po_none (po_some (pe_op op_sub (pe_callB (len_seqK (K := K) rfl) rfl (n_len T) (by decide +kernel) (pa_cons (pv 3) pa_nil)) pe_int))))) pss_nil)
      (pss_cons (ps_if (pt_cmpR op_eq (pv 4) pe_int (nomark _)) (pss_one (ps_ret (pe_op op_cat (pv 3) (pe_lst (pa_cons (pe_lst pa_nil) pa_nil))))) pss_nil)
      (pss_cons (ps_if (PW.pt (pw_or (pt_cmpR op_eq (pv 4) pe_int (nomark _)) (pw_or1 (pt_cmpR op_eq (pe_callB (len_seqK (K := K) rfl) rfl (n_len T) (by decide +kernel) (pa_cons (pv 2) pa_nil)) pe_int (nomark _))))) (pss_one (ps_expr (pe_bm PySem.F.plainAttrs_list PySem.F.slot_list_append PySem.F.type_list_append mt_append (pv 6) (pa_cons (pe_tup (pa_cons (pe_op op_add pe_int (pe_ok (ok__law_draw T) (hr.mono (by first | decide | omega)) rfl pass0 (pa_cons (pv 0) (pa_cons pe_int pa_nil)))) (pa_cons pe_int pa_nil))) pa_nil)))) (pss_one (ps_if (pt_cmpR op_eq (pv 4) pe_int (nomark _)) (pss_cons (ps_set (i := 7) sc__law_bent_weather.nd rfl (by first | exact Or.inl rfl | exact Or.inr rfl) (pe_bm PySem.F.plainAttrs_list PySem.F.slot_list_pop PySem.F.type_list_pop mt_popAt (pv 2) (pa_cons (pe_ok (ok__law_draw T) (hr.mono (by first | decide | omega)) rfl pass0 (pa_cons (pv 0) (pa_cons (pe_callB (len_seqK (K := K) rfl) rfl (n_len T) (by decide +kernel) (pa_cons (pv 2) pa_nil)) pa_nil))) pa_nil)))
      (pss_one (ps_expr (pe_bm PySem.F.plainAttrs_list PySem.F.slot_list_append PySem.F.type_list_append mt_append (pv 6) (pa_cons (pv 7) pa_nil))))) (pss_one (ps_if (pt_cmpR op_eq (pv 4) pe_int (nomark _)) (pss_one (ps_expr (pe_bm PySem.F.plainAttrs_list PySem.F.slot_list_pop PySem.F.type_list_pop mt_popAt (pv 2) (pa_cons (pe_ok (ok__law_draw T) (hr.mono (by first | decide | omega)) rfl pass0 (pa_cons (pv 0) (pa_cons (pe_callB (len_seqK (K := K) rfl) rfl (n_len T) (by decide +kernel) (pa_cons (pv 2) pa_nil)) pa_nil))) pa_nil)))) (pss_one (ps_if (pt_cmpR op_eq (pv 4) pe_int (nomark _)) (pss_cons (ps_set (i := 8) sc__law_bent_weather.nd rfl (by first | exact Or.inl rfl | exact Or.inr rfl) (pe_ok (ok__law_draw T) (hr.mono (by first | decide | omega)) rfl pass0 (pa_cons (pv 0) (pa_cons (pe_callB (len_seqK (K := K) rfl) rfl (n_len T) (by decide +kernel) (pa_cons (pv 2) pa_nil)) pa_nil))))
      (pss_one (ps_asg (pe_tup (pa_cons (pe_ix (ix_seqK (K := K) rfl) (pe_ix (ix_listK (K := K) rfl) (pv 2) (pv 8) (fun _ _ => rfl)) pe_int (fun _ _ => rfl)) (pa_cons (pe_op op_mul pe_int (pe_ok (ok__law_draw T) (hr.mono (by first | decide | omega)) rfl pass0 (pa_cons (pv 0) (pa_cons pe_int pa_nil)))) pa_nil))) (pg_sub (pv 2) (pv 8) set_list)))) (pss_one (ps_asg (pe_lc (own := [("at", 9)]) rfl sc__law_bent_weather.nd (pi_range1 rfl (n_range T) (pa_cons (pe_callB (len_seqK (K := K) rfl) rfl (n_len T) (by decide +kernel) (pa_cons (pv 2) pa_nil)) pa_nil)) (blkOk_by (N := ["stock", "weather", "report", "bent", "kind", "day", "other", "fall", "place", "at"]) (sc := defScope s__law_bent_weather) (by decide +kernel)) (fun _ _ _ _ _ => (pg_name (i := 9) sc__law_bent_weather.nd rfl (by first | exact Or.inl rfl | exact Or.inr rfl))) (fun _ _ _ _ _ => pts_nil) (fun _ _ _ _ _ => (pe_ix (ix_listK (K := K) rfl) (pv 2) (pe_op op_sub (pe_op op_sub (pe_callB (len_seqK (K := K) rfl) rfl (n_len T) (by decide +kernel) (pa_cons (pv 2) pa_nil)) pe_int) (pv 9)) (fun _ _ => rfl)))) (pg_sub (pv 3) (pv 5) set_list))))))))))
      (pss_one (ps_ret (pv 3))))))))))), ?_⟩
    have hyl : ys.length = W.length := Paired.length w2
    refine ⟨_, rfl, a, rfl, ⟨_, SqL.of w1⟩, fun D hD => lc_acc (K := K) (a := a) (xs := ys) hD (SqL.of w1) (by omega) (fun j acc H2 => ∃ rs : List Addr, acc = rs.map V.ref ∧ rs.Nodup ∧ D ∉ rs ∧ (∀ r ∈ rs, H r = none) ∧ Paired (RepA H2) rs (W.take j)) (fun _ _ => ⟨([] : List Addr), rfl, List.nodup_nil, (by simp), (fun (r : Addr) (h : r ∈ ([] : List Addr)) => (by simp at h)), Paired.nil⟩) ?_ ?_⟩
    · rintro j x acc H2 N N0 hx s2 hacc ⟨rs, rfl, hnd, hDn, hr0, hp⟩ hN hN0
      obtain ⟨rep, hrep, l, zs, rfl, r1, r2⟩ := paired_get w2 hx
      have r1' := s2 _ _ r1
      refine gnE ⟨rfl, ?_⟩
      refine ⟨_, rfl, l, zs, rfl, .inl (SqL.of r1'), fun r hr_ => ?_⟩
      obtain ⟨s3, g3⟩ := new2 (.lst zs) hr_
      have hrD : r ≠ D := fun z => by rw [z, hacc] at hr_; cases hr_
      refine hN _ _ s3 fun H5 b5 _ => ⟨rs ++ [r], by rw [List.map_append]; rfl, ?_, ?_, ?_, ?_⟩
      · rw [List.nodup_append]
        refine ⟨hnd, by simp, fun x hx y hy => ?_⟩
        rw [List.mem_singleton.mp hy]
        intro z
        obtain ⟨a, ha⟩ := List.getElem?_of_mem hx
        obtain ⟨_, _, ys, q, _⟩ := paired_get hp ha
        rw [z, hr_] at q
        cases q
      · intro z
        rcases List.mem_append.mp z with z | z
        · exact hDn z
        · exact hrD (List.mem_singleton.mp z).symm
      · intro q hq
        rcases List.mem_append.mp hq with z | z
        · exact hr0 q z
        · rw [List.mem_singleton.mp z]
          exact none_of s2 hr_
      · rw [take_get hrep]
        have hacc3 := s3 _ _ hacc
        refine Paired.append ?_ (.cons ⟨zs, b5 _ _ g3 hrD, Paired.mapP r2 fun _ _ z => ((z.same s2).same s3).but hacc3 b5⟩ .nil)
        have : ∀ {l' : List Addr} {m' : List (List (Int × Int))}, D ∉ l' → Paired (RepA H2) l' m' → Paired (RepA H5) l' m' := fun {l' m'} hl hp => by
          induction hp with
          | nil => exact .nil
          | cons h _ ih =>
            rw [List.mem_cons, not_or] at hl
            obtain ⟨ys, q1, q2⟩ := h
            exact .cons ⟨ys, b5 _ _ (s3 _ _ q1) fun z => hl.1 z.symm, Paired.mapP q2 fun _ _ z => (z.same s3).but hacc3 b5⟩ (ih hl.2)
        exact this hDn hp
    · rintro acc H2 s2 hacc hal ⟨rs, rfl, hnd, hDn, hr0, hp⟩
      rw [hyl, List.take_length] at hp
      have hG2 : WG H H2 D rs W := ⟨hacc, hnd, hDn, hr0, hp⟩
      have st2 := hst.same s2
      have hrl : rs.length = W.length := Paired.length hp
      have hml : (rs.map V.ref).length = W.length := by rw [List.length_map, hrl]
      have cc2 : But sa H H2 := But.of s2
      refine ⟨_, rfl, sa, 7, rfl, by decide, by decide, st2, fun kd a1 b1 c1 k0 k1 => ?_⟩
      obtain ⟨b3x, st3⟩ := drew (H := H2) (sa := sa) a1 b1 c1
      generalize upd H2 sa (stk a1 b1 c1) = H3 at b3x st3 ⊢
      have hG3 := hG2.but st2 b3x
      refine ⟨_, rfl, _, rfl, _, _, rfl, .inl (SqL.of hG3.1), sa, _, rfl, by omega, by omega, st3, fun dy a2 b2 c2 d0 d1 => ?_⟩
      obtain ⟨b4, st4⟩ := drew (H := H3) (sa := sa) a2 b2 c2
      generalize upd H3 sa (stk a2 b2 c2) = H4 at b4 st4 ⊢
      have hG4 := hG3.but st3 b4
      obtain ⟨n, rfl⟩ : ∃ n : Nat, dy = (n : Int) := ⟨dy.toNat, by omega⟩
      obtain ⟨ra, hra⟩ : ∃ r, rs[n]? = some r := ⟨rs[n]'(by omega), List.getElem?_eq_getElem _⟩
      obtain ⟨repa, hwa⟩ : ∃ rep, W[n]? = some rep := ⟨W[n]'(by omega), List.getElem?_eq_getElem _⟩
      refine ⟨_, rfl, _, rfl, D, _, _, .ref ra, rfl, rfl, SqL.of hG4.1, at_of rfl (by rw [List.getElem?_map, hra]; rfl), ?_⟩
      refine ⟨_, rfl, _, rfl, _, rfl, _, _, rfl, .inl (SqL.of hG4.1), sa, _, rfl, by omega, by omega, st4, fun ot a3 b3 c3 o0 o1 => ?_⟩
      obtain ⟨b5, st5⟩ := drew (H := H4) (sa := sa) a3 b3 c3
      generalize upd H4 sa (stk a3 b3 c3) = H5 at b5 st5 ⊢
      have hG5 := hG4.but st4 b5
      obtain ⟨m, rfl⟩ : ∃ n : Nat, ot = (n : Int) := ⟨ot.toNat, by omega⟩
      obtain ⟨rb, hrb⟩ : ∃ r, rs[m]? = some r := ⟨rs[m]'(by omega), List.getElem?_eq_getElem _⟩
      obtain ⟨repb, hwb⟩ : ∃ rep, W[m]? = some rep := ⟨W[m]'(by omega), List.getElem?_eq_getElem _⟩
      refine ⟨D, _, _, .ref rb, rfl, rfl, SqL.of hG5.1, at_of rfl (by rw [List.getElem?_map, hrb]; rfl), ?_⟩
      have cc : But sa H H5 := ((cc2.trans b3x).trans b4).trans b5
      have la := total_get hwa
      have lb := total_get hwb
      clear b4 b5 st4 st3 st2 hG2 hG3 hG4 hacc
      -- kind 0
      refine ⟨_, rfl, rfl, _, rfl, ite2 (fun c => ?_) (fun q0 => ?_)⟩
      · refine ⟨_, rfl, _, rfl, _, _, rfl, .inl (SqL.of hG5.1), _, _, rfl, rfl, _, rfl, D, _, rfl, SqL.of hG5.1, fun p hp' => ?_⟩
        rw [cut_take (k := W.length - 1) _ (by omega)]
        obtain ⟨s6, g6⟩ := new2 (.lst ((rs.map V.ref).take (W.length - 1))) hp'
        obtain ⟨xs, z1, z2⟩ := hG5.wea
        have z1' : xs = rs.map V.ref := by
          have := z1.symm.trans hG5.1
          exact HO.lst.inj (Option.some.inj this)
        subst z1'
        refine k p (W.take (W.length - 1)) _ (cc.trans (But.of s6)) (st5.same s6) ⟨_, g6, paired_take _ (Paired.mapP z2 fun _ _ z => z.same s6)⟩ ?_ ?_
        · rw [List.length_take]; omega
        · exact Nat.le_trans (total_le W _) (by omega)
      -- kind 1
      refine ⟨_, rfl, rfl, _, rfl, ite2 (fun c => ?_) (fun q1 => ?_)⟩
      · refine ⟨_, rfl, (by show 0 ≤ sizeLine; decide), fun e he => ⟨(by show 1 ≤ sizeLine; decide), fun u hu => ?_⟩⟩
        obtain ⟨s6, g6⟩ := new2 (.lst []) he
        obtain ⟨s7, g7⟩ := new2 (.lst [V.ref e]) hu
        have s67 := s6.trans s7
        refine ⟨D, u, _, _, rfl, rfl, s67 _ _ hG5.1, g7, line_of (by show (rs.map V.ref).length + 1 ≤ _; omega), fun v hv => ?_⟩
        obtain ⟨s8, g8⟩ := new2 (.lst (rs.map V.ref ++ [V.ref e])) hv
        obtain ⟨xs, z1, z2⟩ := hG5.wea
        have z1' : xs = rs.map V.ref := HO.lst.inj (Option.some.inj (z1.symm.trans hG5.1))
        subst z1'
        refine k v (W ++ [[]]) _ (cc.trans (But.of (s67.trans s8))) (st5.same (s67.trans s8)) ⟨_, g8, Paired.append (Paired.mapP z2 fun _ _ z => z.same (s67.trans s8)) (.cons ⟨e, [], rfl, s8 _ _ (s7 _ _ g6), .nil⟩ .nil)⟩ ?_ ?_
        · rw [List.length_append]; show W.length + 1 ≤ _; omega
        · rw [total_app]; show total W + 0 ≤ _; omega
      obtain ⟨xa, ga, pa⟩ := hG5.rep hra hwa
      obtain ⟨xb, gb, pb⟩ := hG5.rep hrb hwb
      have lxa := Paired.length pa
      have lxb := Paired.length pb
      have nra := hG5.2.2.2.1 ra (List.mem_of_getElem? hra)
      have nrb := hG5.2.2.2.1 rb (List.mem_of_getElem? hrb)
      -- kind 2
      refine EvT.ifs (b := decide (kd = 2) || decide ((xa.length : Int) = 0)) (EvT.or (EvT.test (Ev.eq (Ev.var rfl) Ev.c)) fun _ => EvT.test (Ev.eq (Ev.lenL (Ev.var rfl) ga) Ev.c)) fun H6 s6 => ?_
      have hG6 := hG5.same s6
      have st6 := st5.same s6
      have c6 := cc.trans (But.of s6)
      have ga6 := s6 _ _ ga
      have gb6 := s6 _ _ gb
      clear hG5 st5 cc
      refine ite2 (fun c => ?_) (fun q2 => ?_)
      · refine ⟨_, rfl, .inl ⟨rfl, _, SqL.of gb6⟩, _, rfl, sa, 5, rfl, by decide, by decide, st6, fun z a4 b4 c4 z0 z1 => ⟨_, _, rfl, rfl, (by show 2 ≤ sizeLine; decide), fun t ht => ?_⟩⟩
        obtain ⟨b7, st7⟩ := drew (H := H6) (sa := sa) a4 b4 c4
        generalize upd H6 sa (stk a4 b4 c4) = H7 at b7 st7 ht ⊢
        obtain ⟨s8, g8⟩ := new2 (.tup [.int (1 + z), .int 1]) ht
        have hG8 := (hG6.but st6 b7).same s8
        obtain ⟨xs, e1, e2⟩ := hG8.rep hrb hwb
        have lx := Paired.length e2
        refine ⟨rb, xs, _, rfl, rfl, e1, line_lt (by omega), ?_⟩
        have hG9 := hG8.edit (ys := xs ++ [V.ref t]) hrb e1 (rep := repb ++ [(1 + z, 1)]) (Paired.snoc e2 ⟨t, rfl, g8⟩)
        refine ⟨_, rfl, k D _ _ ((c6.trans (b7.trans (But.of s8))).mut nrb) ((st7.same s8).but (rep_ne (st7.same s8) e1 e2).symm) hG9.wea (by rw [List.length_set]; omega) ?_⟩
        have := total_put (rep' := repb ++ [(1 + z, 1)]) hwb
        rw [List.length_append] at this
        have : (List.length [((1 : Int) + z, (1 : Int))]) = 1 := rfl
        omega
      have hxa : xa.length ≠ 0 := fun z => by
        rw [z] at q2
        simp at q2
      -- kind 3
      refine ⟨_, rfl, rfl, _, rfl, ite2 (fun c => ?_) (fun q3 => ?_)⟩
      · refine ⟨_, rfl, .inl ⟨rfl, _, SqL.of ga6⟩, _, rfl, _, rfl, _, _, rfl, .inl (SqL.of ga6), sa, _, rfl, by omega, by omega, st6, fun z a4 b4 c4 z0 z1 => ?_⟩
        obtain ⟨b7, st7⟩ := drew (H := H6) (sa := sa) a4 b4 c4
        generalize upd H6 sa (stk a4 b4 c4) = H7 at b7 st7 ⊢
        have hG7 := hG6.but st6 b7
        obtain ⟨q, rfl⟩ : ∃ n : Nat, z = (n : Int) := ⟨z.toNat, by omega⟩
        obtain ⟨xs, e1, e2⟩ := hG7.rep hra hwa
        have lx := Paired.length e2
        obtain ⟨y, hy⟩ : ∃ y, xs[q]? = some y := ⟨xs[q]'(by omega), List.getElem?_eq_getElem _⟩
        obtain ⟨cy, hcy, py⟩ := paired_get e2 hy
        refine ⟨ra, xs, _, q, y, rfl, rfl, e1, by omega, by omega, (seqIndex_of (by omega) (by omega)).trans (by rfl), hy, ?_⟩
        have hG8 := hG7.edit (ys := xs.eraseIdx q) hra e1 (paired_erase q e2)
        have st8 := st7.but (o := .lst (xs.eraseIdx q)) (rep_ne st7 e1 e2).symm
        have py8 := py.mut (o := .lst (xs.eraseIdx q)) e1
        have c8 := (c6.trans b7).mut (o := .lst (xs.eraseIdx q)) nra
        generalize upd H7 ra (.lst (xs.eraseIdx q)) = H8 at hG8 st8 py8 c8 ⊢
        obtain ⟨repc, hwc⟩ : ∃ rep, (W.set n (repa.eraseIdx q))[m]? = some rep := ⟨_, List.getElem?_eq_getElem (by rw [List.length_set]; omega)⟩
        obtain ⟨xc, f1, f2⟩ := hG8.rep hrb hwc
        have lxc := Paired.length f2
        have t1 := total_put (rep' := repa.eraseIdx q) hwa
        have t1' : (repa.eraseIdx q).length + 1 = repa.length := by
          have := List.length_eraseIdx_of_lt (l := repa) (i := q) (by omega)
          omega
        have lc := total_get hwc
        refine ⟨_, rfl, .inl ⟨rfl, _, SqL.of f1⟩, _, rfl, rb, xc, _, rfl, rfl, f1, line_lt (by omega), ?_⟩
        have hG9 := hG8.edit (ys := xc ++ [y]) hrb f1 (Paired.snoc f2 py8)
        refine ⟨_, rfl, k D _ _ (c8.mut nrb) (st8.but (rep_ne st8 f1 f2).symm) hG9.wea (by rw [List.length_set, List.length_set]; omega) ?_⟩
        have := total_put (rep' := repc ++ [cy]) hwc
        rw [List.length_append] at this
        have : (List.length [cy]) = 1 := rfl
        omega
      -- kind 4
      refine ⟨_, rfl, rfl, _, rfl, ite2 (fun c => ?_) (fun q4 => ?_)⟩
      · refine ⟨_, rfl, .inl ⟨rfl, _, SqL.of ga6⟩, _, rfl, _, rfl, _, _, rfl, .inl (SqL.of ga6), sa, _, rfl, by omega, by omega, st6, fun z a4 b4 c4 z0 z1 => ?_⟩
        obtain ⟨b7, st7⟩ := drew (H := H6) (sa := sa) a4 b4 c4
        generalize upd H6 sa (stk a4 b4 c4) = H7 at b7 st7 ⊢
        have hG7 := hG6.but st6 b7
        obtain ⟨q, rfl⟩ : ∃ n : Nat, z = (n : Int) := ⟨z.toNat, by omega⟩
        obtain ⟨xs, e1, e2⟩ := hG7.rep hra hwa
        have lx := Paired.length e2
        obtain ⟨y, hy⟩ : ∃ y, xs[q]? = some y := ⟨xs[q]'(by omega), List.getElem?_eq_getElem _⟩
        refine ⟨ra, xs, _, q, y, rfl, rfl, e1, by omega, by omega, (seqIndex_of (by omega) (by omega)).trans (by rfl), hy, ?_⟩
        have hG8 := hG7.edit (ys := xs.eraseIdx q) hra e1 (paired_erase q e2)
        have st8 := st7.but (o := .lst (xs.eraseIdx q)) (rep_ne st7 e1 e2).symm
        have c8 := (c6.trans b7).mut (o := .lst (xs.eraseIdx q)) nra
        have t1 := total_put (rep' := repa.eraseIdx q) hwa
        have t1' : (repa.eraseIdx q).length + 1 = repa.length := by
          have := List.length_eraseIdx_of_lt (l := repa) (i := q) (by omega)
          omega
        exact ⟨_, rfl, k D _ _ c8 st8 hG8.wea (by rw [List.length_set]; omega) (by omega)⟩
      -- kind 5
      refine ⟨_, rfl, rfl, _, rfl, ite2 (fun c => ?_) (fun q5 => ?_)⟩
      · refine ⟨_, rfl, _, rfl, _, _, rfl, .inl (SqL.of ga6), sa, _, rfl, by omega, by omega, st6, fun z a4 b4 c4 z0 z1 => ?_⟩
        obtain ⟨b7, st7⟩ := drew (H := H6) (sa := sa) a4 b4 c4
        generalize upd H6 sa (stk a4 b4 c4) = H7 at b7 st7 ⊢
        have hG7 := hG6.but st6 b7
        obtain ⟨q, rfl⟩ : ∃ n : Nat, z = (n : Int) := ⟨z.toNat, by omega⟩
        obtain ⟨xs, e1, e2⟩ := hG7.rep hra hwa
        have lx := Paired.length e2
        obtain ⟨y, hy⟩ : ∃ y, xs[q]? = some y := ⟨xs[q]'(by omega), List.getElem?_eq_getElem _⟩
        obtain ⟨cy, hcy, py⟩ := paired_get e2 hy
        refine ⟨_, rfl, _, rfl, ra, xs, _, y, rfl, rfl, SqL.of e1, at_of rfl hy, py.i0 ⟨_, rfl, sa, 2, rfl, by decide, by decide, st7, fun v a5 b5 c5 v0 v1 => ⟨_, _, rfl, rfl, .inl (by decide), (by show 2 ≤ sizeLine; decide), fun t ht => ?_⟩⟩⟩
        obtain ⟨b8, st8⟩ := drew (H := H7) (sa := sa) a5 b5 c5
        generalize upd H7 sa (stk a5 b5 c5) = H8 at b8 st8 ht ⊢
        obtain ⟨s9, g9⟩ := new2 (.tup [.int cy.1, .int (2 * v)]) ht
        have hG9 := (hG7.but st7 b8).same s9
        obtain ⟨xs', f1, f2⟩ := hG9.rep hra hwa
        have lx' := Paired.length f2
        refine ⟨_, rfl, _, rfl, ra, xs', _, q, rfl, rfl, f1, ix_nat (by omega), ?_⟩
        have hG10 := hG9.edit (ys := xs'.set q (.ref t)) hra f1 (paired_setv (y := (cy.1, 2 * v)) ⟨t, rfl, g9⟩ q f2)
        have st9 := st8.same s9
        have t1 := total_put (rep' := repa.set q (cy.1, 2 * v)) hwa
        rw [List.length_set] at t1
        exact ⟨_, rfl, k D _ _ ((c6.trans (b7.trans (b8.trans (But.of s9)))).mut nra) (st9.but (rep_ne st9 f1 f2).symm) hG10.wea (by rw [List.length_set]; omega) (by omega)⟩
      -- the last kind
      · refine ⟨_, rfl, _, _, rfl, .inl (SqL.of ga6), _, rfl, by omega, by omega, fun R hR => lc_upto (lo := 0) (L := xa.length) (by omega) hR (by omega) (fun j acc H' => ∃ rep, Paired (PairT H') acc rep ∧ rep.length = j) (fun _ _ => ⟨[], .nil, rfl⟩) ?_ ?_⟩
        · rintro j acc H7 N N0 hj s7 hacc ⟨rep, hp', hl'⟩ hN hN0
          obtain ⟨y, hy⟩ : ∃ y, xa[xa.length - 1 - j]? = some y := ⟨xa[xa.length - 1 - j]'(by omega), List.getElem?_eq_getElem _⟩
          obtain ⟨cy, hcy, py⟩ := paired_get pa hy
          refine gnE ⟨rfl, ?_⟩
          refine ⟨_, rfl, _, rfl, _, _, rfl, .inl (SqL.of (s7 _ _ ga6)), _, _, rfl, rfl, _, rfl, _, _, rfl, rfl, ra, xa, _, y, rfl, rfl, SqL.of (s7 _ _ ga6), at_of (by omega) hy, ?_⟩
          refine hN _ _ (Same.refl _) fun H8 b8 _ => ⟨rep ++ [cy], Paired.snoc (Paired.mapP hp' fun _ _ z => z.but hacc b8) (((py.same s6).same s7).but hacc b8), by rw [List.length_append, hl']; rfl⟩
        · rintro acc H7 s7 hacc hal' ⟨rep, hp', hl'⟩
          have hG7 := hG6.same s7
          refine ⟨_, rfl, _, rfl, D, _, _, n, rfl, rfl, hG7.1, ix_nat (by omega), ?_⟩
          obtain ⟨xs, z1, z2⟩ := hG7.wea
          have z1' : xs = rs.map V.ref := HO.lst.inj (Option.some.inj (z1.symm.trans hG7.1))
          subst z1'
          have RD : R ≠ D := fun z => by rw [z, hG6.1] at hR; cases hR
          have st7 := st6.same s7
          have hmD : ∀ {y : V} {rp : List (Int × Int)}, y ≠ .ref D → RepT H7 y rp → RepT (upd H7 D (.lst ((rs.map V.ref).set n (.ref R)))) y rp := fun {y rp} hy ⟨l, xs, e, p1, p2⟩ => ⟨l, xs, e, by rw [upd_ne fun z => hy (by rw [e, z])]; exact p1, Paired.mapP p2 fun _ _ z => z.mut z1⟩
          have hall : Paired (RepT (upd H7 D (.lst ((rs.map V.ref).set n (.ref R))))) (rs.map V.ref) W := by
            have : ∀ {l' : List Addr} {m' : List (List (Int × Int))}, D ∉ l' → Paired (RepT H7) (l'.map V.ref) m' → Paired (RepT (upd H7 D (.lst ((rs.map V.ref).set n (.ref R))))) (l'.map V.ref) m' := fun {l'} => by
              induction l' with
              | nil => intro m' _ hp; cases hp; exact .nil
              | cons x l' ih =>
                intro m' hl hp
                rw [List.mem_cons, not_or] at hl
                cases hp with
                | cons h t => exact .cons (hmD (fun z => hl.1 (by cases z; rfl)) h) (ih hl.2 t)
            exact this hG7.2.2.1 z2
          have t1 := total_put (rep' := rep) hwa
          refine ⟨_, rfl, k D (W.set n rep) _ ((c6.trans (But.of s7)).mut hD) (st7.but (refs_ne st7 hG7.1).symm) ⟨_, upd_same, paired_setv (hmD (fun z => RD (by cases z; rfl)) ⟨R, acc, rfl, hacc, hp'⟩) n hall⟩ (by rw [List.length_set]; omega) (by omega)⟩
end
end K27
end
section
set_option maxRecDepth 100000
set_option maxHeartbeats 4000000
namespace K27
open PySem PySem.Spec PyProof.Rows L2
theorem tabS_R {ws : List (Int × Int)} : tabS ws = tabR (ws.map canR) := by
  funext a b
  unfold tabS tabR cS cN
  rw [List.filter_map, List.length_map]
  rfl
def dRsX (ds : List PyData) : PyData := .tuple [.str "raised", .list [.tuple ds]]
theorem RsdX.dp {K : PySem.W.Frag} {H : Hp} {r : Addr} {tl : List V} {ds : List PyData} (h : RsdX H r tl) (hd : DpAll K H tl ds) : Dp K H (.ref r) (dRsX ds) := by
  obtain ⟨l, t, h1, h2, h3⟩ := h
  exact .tup (SqT.of h1) (.cons (.str _) (.cons (.lst (SqL.of h2) (.cons (.tup (SqT.of h3) hd) .nil)) .nil))
theorem str_raised : PyData.strOk (Str.ofString "raised") = true := by decide +kernel
theorem str_badtable : PyData.strOk (Str.ofString "BadTable") = true := by decide +kernel
theorem shaped_rsX {ds : List PyData} (h1 : PyData.canLayAll0 ds = true) (h2 : PyData.depthAll ds ≤ 0) : SeqAt.shaped (dRsX ds) = true := by
  have e1 : (dRsX ds).canLay0 = true := by
    unfold dRsX
    simp [PyData.canLay0, PyData.canLayAll0, str_raised, h1]
  have e2 : (dRsX ds).depth ≤ 64 := by
    unfold dRsX
    simp [PyData.depth, PyData.depthAll]
    omega
  unfold SeqAt.shaped
  rw [e1, decide_eq_true e2]
  rfl
theorem ne_rsX {K : PySem.W.Frag} {H : Hp} {a b : Addr} {tl : List V} {ds : List PyData} {Q : VK} (hd : DpAll K H tl ds) (hl1 : PyData.canLayAll0 ds = true) (hl2 : PyData.depthAll ds ≤ 0) (h1 : RsdX H a tl) (h2 : RsdX H b tl) (q : Q (.bl false) H) : rNeD K (.ref a) (.ref b) H Q := by
  have hs := shaped_rsX hl1 hl2
  refine ⟨_, _, h1.dp hd, h2.dp hd, hs, hs, ?_⟩
  rw [eqv_self hs]
  exact q
theorem ne_tab {K : PySem.W.Frag} {H : Hp} {a b : Addr} {x y : Int} {Q : VK} (h1 : RsdX H a [.str "BadTable", .int x, .int y]) (h2 : RsdX H b [.str "BadTable", .int x, .int y]) (q : Q (.bl false) H) : rNeD K (.ref a) (.ref b) H Q :=
  ne_rsX (ds := [.str "BadTable", .int x, .int y]) (.cons (.str _) (.cons (.int _) (.cons (.int _) .nil))) (by simp [PyData.canLayAll0, PyData.canLay0, str_badtable]) (by simp [PyData.depthAll, PyData.depth]) h1 h2 q
theorem ne_int {K : PySem.W.Frag} {H : Hp} {a b : Addr} {z : Str} {x : Int} {Q : VK} (hz : PyData.strOk z = true) (h1 : RsdX H a [.str z, .int x]) (h2 : RsdX H b [.str z, .int x]) (q : Q (.bl false) H) : rNeD K (.ref a) (.ref b) H Q :=
  ne_rsX (ds := [.str z, .int x]) (.cons (.str _) (.cons (.int _) .nil)) (by simp [PyData.canLayAll0, PyData.canLay0, hz]) (by simp [PyData.depthAll, PyData.depth]) h1 h2 q
theorem ne_str {K : PySem.W.Frag} {H : Hp} {a b : Addr} {z y : Str} {Q : VK} (hz : PyData.strOk z = true) (hy : PyData.strOk y = true) (h1 : RsdX H a [.str z, .str y]) (h2 : RsdX H b [.str z, .str y]) (q : Q (.bl false) H) : rNeD K (.ref a) (.ref b) H Q :=
  ne_rsX (ds := [.str z, .str y]) (.cons (.str _) (.cons (.str _) .nil)) (by simp [PyData.canLayAll0, PyData.canLay0, hz, hy]) (by simp [PyData.depthAll, PyData.depth]) h1 h2 q
theorem mk_rsd {H : Hp} {t l d : Addr} {tl : List V} (h1 : H t = none) (h2 : upd H t (.tup tl) l = none) (h3 : upd (upd H t (.tup tl)) l (.lst [V.ref t]) d = none) :
    Same H (upd (upd (upd H t (.tup tl)) l (.lst [V.ref t])) d (.tup [.str "raised", .ref l])) ∧ RsdX (upd (upd (upd H t (.tup tl)) l (.lst [V.ref t])) d (.tup [.str "raised", .ref l])) d tl := by
  obtain ⟨s1, g1⟩ := new2 (.tup tl) h1
  obtain ⟨s2, g2⟩ := new2 (.lst [V.ref t]) h2
  obtain ⟨s3, g3⟩ := new2 (.tup [.str "raised", .ref l]) h3
  exact ⟨s1.trans (s2.trans s3), l, t, g3, s3 _ _ g2, s3 _ _ (s2 _ _ g1)⟩
theorem RsdX.butS {H H' : Hp} {sa r : Addr} {tl : List V} (hs : Stk H sa) (e : But sa H H') (h : RsdX H r tl) : RsdX H' r tl := by
  obtain ⟨l, t, h1, h2, h3⟩ := h
  exact ⟨l, t, e _ _ h1 (ne_stk hs h1 fun _ z => by cases z), e _ _ h2 (refs_ne (rs := [t]) hs h2), e _ _ h3 (ne_stk hs h3 fun _ z => by cases z)⟩
theorem first_uniq {T : Int} {lt : List (Int × Int)} {n m : Nat} {s u : Int × Int} (h1 : lt[n]? = some s) (h2 : ¬ StrOk T s) (h3 : ∀ (i : Nat) s', i < n → lt[i]? = some s' → StrOk T s') (k1 : lt[m]? = some u) (k2 : ¬ StrOk T u) (k3 : ∀ (i : Nat) s', i < m → lt[i]? = some s' → StrOk T s') : s = u := by
  rcases Nat.lt_trichotomy n m with c | c | c
  · exact absurd (k3 n s c h1) h2
  · rw [c, k1] at h1
    exact (Option.some.inj h1).symm
  · exact absurd (h3 m u c k1) k2
theorem whole_ok {T : Nat} {ws : List (Int × Int)} (hs : ∀ c ∈ ws, SpanOk T c) (hT : 1 ≤ T) (n : Nat) : ∀ c ∈ ws, freeD T (List.replicate n ((0 : Int), (T : Int))) c ≠ 0 := fun c hc z => by
  obtain ⟨h1, h2, _⟩ := hs c hc
  obtain ⟨o, ho, hk⟩ := one_ok (T := T) (s := ((0 : Int), (T : Int))) (c := c) (Int.le_refl 0) (by show (0 : Int) < T; omega) (Int.le_refl _) h1 h2
  have := (freeD_zero h1).mp z o ho
  have k : okO (List.replicate n ((0 : Int), (T : Int))) c o = true := okO_lot.mpr fun s hs' => by
    rw [(List.mem_replicate.mp hs').2]
    exact hk
  rw [k] at this
  cases this
theorem und_same {T : Nat} {ws : List (Int × Int)} {Ws : List (List (List (Int × Int)))} (hg : ∀ r ∈ ws.map canR, GoodR r) (h : ∀ W ∈ Ws, wrongOf (ws.map canR) T W = -1) : undL (ws.map canR) T Ws = undS ws (keysL (tabR (ws.map canR)) T) Ws := by
  unfold undL undS
  refine List.filter_congr fun c hc => ?_
  obtain ⟨a, b, hab, hb, rfl⟩ := keysL_mem hc
  have : ∀ W ∈ Ws, (!tgB (tabR (ws.map canR)) (fellBy W) ((a : Int), (b : Int))) = !isT ws W a b := fun W hW => by
    obtain ⟨hl, hf⟩ := right_len (h W hW)
    have := tight_is (ws := ws) hf (a := a) (b := b) (by omega) (by omega) hg
    unfold tgB
    rw [← this]
    rfl
  rw [Bool.eq_iff_iff, List.all_eq_true, List.all_eq_true]
  exact ⟨fun z W hW => by rw [← z W hW]; exact (this W hW).symm, fun z W hW => by rw [← z W hW]; exact this W hW⟩
end K27
end
section
set_option maxRecDepth 100000
set_option maxHeartbeats 4000000
namespace K27
open PySem PySem.Spec PyProof.Rows L2
section
variable {P : Program} {w : World} {K : PySem.W.Frag} {mg : Str → Option Value} {base : Heap}
def spErrR (K : PySem.W.Frag) : Sp := fun vs H Q _ => ∃ (T : Nat) (sa p sl wl a0 : Addr) (xs ys : List V) (ws : List (Int × Int)) (W0 : List (List (Int × Int))), vs = [.ref sa, .ref p, .int T, .ref sl, .ref wl] ∧ Stk H sa ∧ AlmAt K H p T (ws.map canR) ∧ H sl = some (.lst xs) ∧ Paired (PairT H) xs ws ∧ H wl = some (.lst ys) ∧ wl ≠ sa ∧ ys[0]? = some (.ref a0) ∧ WeaT H a0 W0 ∧ wrongOf (ws.map canR) T W0 = -1 ∧ total W0 ≤ 40 ∧
  1 ≤ ws.length ∧ ws.length ≤ 40 ∧ 1 ≤ T ∧ T ≤ 24 ∧ (∀ c ∈ ws, SpanOk T c) ∧ ∀ H', Q (.bl true) H'
def spUndV : Sp := fun vs H Q _ => ∃ (T : Nat) (sl kl wl : Addr) (xs ksv ys : List V) (ws ks : List (Int × Int)) (Ws : List (List (List (Int × Int)))), vs = [.ref sl, .ref kl, .ref wl] ∧ H sl = some (.lst xs) ∧ Paired (PairT H) xs ws ∧ H kl = some (.lst ksv) ∧ Paired (PairT H) ksv ks ∧ H wl = some (.lst ys) ∧ Paired (WeaV H) ys Ws ∧ Ws.length ≤ 90000 ∧ T ≤ 24 ∧
  (∀ c ∈ ks, ∃ a b : Nat, a < b ∧ b ≤ T ∧ c = ((a : Int), (b : Int))) ∧ (∀ W ∈ Ws, wrongOf (ws.map canR) T W = -1) ∧ ∀ v H', Same H H' → (undS ws ks Ws = [] ∧ v = .non ∨ ∃ c r, undS ws ks Ws = c :: r ∧ PairT H' v c) → Q v H'
theorem ok_undV (T : Txt w K mg) : Ok P w K mg base CX0 2 "_law_undecided" ["spans", "keys", "weathers"] spUndV :=
  (ok__law_undecided T).imp fun vs H Q E ⟨TT, sl, kl, wl, xs, ksv, ys, ws, ks, Ws, h0, h1, h2, h3, h4, h5, h6, h7, h8, h9, h10, k⟩ => ⟨TT, sl, kl, wl, xs, ksv, ys, ws, ks, Ws, h0, h1, h2, h3, h4, h5, h6, h7, h8, h9, h10, fun e H' s => k _ H' s (.inl ⟨e, rfl⟩), fun c r x H' e s hx => k _ H' s (.inr ⟨c, r, e, hx⟩)⟩
theorem ok__law_errors_right (T : Txt w K mg) : Ok P w K mg base CX0 11 "_law_errors_right" ["stock", "almanac", "days", "spans", "weathers"] (spErrR K) := by
  have ok__law_matches := fun (T : Txt w K mg) => ok_mn3 (P := P) (base := base) T
  have ok__law_undecided := fun (T : Txt w K mg) => ok_undV (P := P) (base := base) T
  refine Ok.def0 (f__law_errors_right T) (fun _ _ _ _ _ _ us hl => match us, hl with | [_, _, _, _, _], _ => rfl) sc__law_errors_right (fun vs H Q E h => ?_) (fun f cdv A outer s H vs Q E hr h => ?_)
  · obtain ⟨TT, sa, p, sl, wl, a0, xs, ys, ws, W0, rfl, _⟩ := h
    rfl
  · obtain ⟨TT, sa, p, sl, wl, a0, xs, ys, ws, W0, rfl, hst, hA, hsl, hX, hwl, wsa, hy0, hW0, hright, htot, hw1, hw, hT1, hT, hs, k⟩ := h
    refine ⟨_, (pss_cons (ps_asg (pe_ok (ok__law_bad_lot T) (hr.mono (by first | decide | omega)) rfl pass0 (pa_cons (pv 0) (pa_cons (pv 2) (pa_cons (pe_slice (sl_listK (K := K) rfl) (pe_ok (ok__law_stretches T) (hr.mono (by first | decide | omega)) rfl pass0 (pa_cons (pv 2) pa_nil)) po_none (po_some pe_int)) pa_nil)))) (pg_tupK (K := K) (n := 2) rfl rfl (pgs_cons (pg_name (i := 5) sc__law_errors_right.nd rfl (by first | exact Or.inl rfl | exact Or.inr rfl)) (pgs_cons (pg_name (i := 6) sc__law_errors_right.nd rfl (by first | exact Or.inl rfl | exact Or.inr rfl)) pgs_nil))))
      (pss_cons (ps_set (i := 7) sc__law_errors_right.nd rfl (by first | exact Or.inl rfl | exact Or.inr rfl) (pe_tup (pa_cons pe_str (pa_cons (pe_lst (pa_cons (pe_tup (pa_cons pe_str (pa_cons (pe_ix (ix_seqK (K := K) rfl) (pv 6) pe_int (fun _ _ => rfl)) (pa_cons (pe_ix (ix_seqK (K := K) rfl) (pv 6) pe_int (fun _ _ => rfl)) pa_nil)))) pa_nil)) pa_nil))))
      (pss_cons (ps_if (PW.pt (pw_or (pt_cmpR (neDK (K := K) rfl hr.units) (pe_ok (ok__law_ask_lot T) (hr.mono (by first | decide | omega)) rfl pass0 (pa_cons (pv 1) (pa_cons (pv 5) pa_nil))) (pv 7) (nomark _)) (pw_or1 (pt_cmpR (neDK (K := K) rfl hr.units) (pe_ok (ok__law_ask_slips T) (hr.mono (by first | decide | omega)) rfl pass0 (pa_cons (pv 1) (pa_cons (pv 6) pa_nil))) (pv 7) (nomark _))))) (pss_one (ps_ret pe_bl)) pss_nil)
      (pss_cons (ps_if (pt_cmpR (neDK (K := K) rfl hr.units) (pe_ok (ok__law_ask_lot T) (hr.mono (by first | decide | omega)) rfl pass0 (pa_cons (pv 1) (pa_cons (pe_op op_rep (pe_lst (pa_cons (pe_tup (pa_cons pe_int (pa_cons (pv 2) pa_nil))) pa_nil)) pe_int) pa_nil))) (pe_tup (pa_cons pe_str (pa_cons (pe_lst (pa_cons (pe_tup (pa_cons pe_str (pa_cons pe_str pa_nil))) pa_nil)) pa_nil))) (nomark _)) (pss_one (ps_ret pe_bl)) pss_nil)
      (pss_cons (ps_if (pt_cmpR op_ne (pe_ix (ix_seqK (K := K) rfl) (pe_ok (ok__law_ask_lot T) (hr.mono (by first | decide | omega)) rfl pass0 (pa_cons (pv 1) (pa_cons (pe_op op_rep (pe_lst (pa_cons (pe_tup (pa_cons pe_int (pa_cons (pv 2) pa_nil))) pa_nil)) pe_int) pa_nil))) pe_int (fun _ _ => rfl)) pe_str (nomark _)) (pss_one (ps_ret pe_bl)) pss_nil)
      (pss_cons (ps_set (i := 8) sc__law_errors_right.nd rfl (by first | exact Or.inl rfl | exact Or.inr rfl) (pe_ok (ok__law_draw T) (hr.mono (by first | decide | omega)) rfl pass0 (pa_cons (pv 0) (pa_cons (pe_callB (len_seqK (K := K) rfl) rfl (n_len T) (by decide +kernel) (pa_cons (pv 3) pa_nil)) pa_nil))))
      (pss_cons (ps_setLc (i := 10) (own := [("span", 9)]) rfl sc__law_errors_right.nd rfl rfl (sw_true rfl rfl rfl (by decide +kernel)) (pi_listK (K := K) rfl (pv 3)) (blkOk_by (N := ["stock", "almanac", "days", "spans", "weathers", "bent", "first", "bad", "row", "span", "rains", "other", "due", "wrong", "day", "keys"]) (sc := defScope s__law_errors_right) (by decide +kernel)) (fun _ _ _ _ _ => (pg_name (i := 9) sc__law_errors_right.nd rfl (by first | exact Or.inl rfl | exact Or.inr rfl))) (fun _ _ _ _ _ => pts_nil) (fun _ _ _ _ _ => (pe_tup (pa_cons (pe_ix (ix_seqK (K := K) rfl) (pv 9) pe_int (fun _ _ => rfl)) (pa_cons (pe_ix (ix_seqK (K := K) rfl) (pv 9) pe_int (fun _ _ => rfl)) (pa_cons pe_int (pa_cons pe_int pa_nil)))))))
      (pss_cons (ps_asg (pe_tup (pa_cons (pe_ix (ix_seqK (K := K) rfl) (pe_ix (ix_listK (K := K) rfl) (pv 10) (pv 8) (fun _ _ => rfl)) pe_int (fun _ _ => rfl)) (pa_cons (pe_ix (ix_seqK (K := K) rfl) (pe_ix (ix_listK (K := K) rfl) (pv 10) (pv 8) (fun _ _ => rfl)) pe_int (fun _ _ => rfl)) (pa_cons pe_int (pa_cons pe_int pa_nil))))) (pg_sub (pv 10) (pv 8) set_list))
      (pss_cons (ps_set (i := 11) sc__law_errors_right.nd rfl (by first | exact Or.inl rfl | exact Or.inr rfl) (pe_okK (okk_Almanac T) (hr.mono (by first | decide | omega)) rfl passL (pa_cons (pv 2) (pa_cons (pv 10) pa_nil))))
      (pss_cons (ps_set (i := 12) sc__law_errors_right.nd rfl (by first | exact Or.inl rfl | exact Or.inr rfl) (pe_tup (pa_cons pe_str (pa_cons (pe_lst (pa_cons (pe_tup (pa_cons pe_str (pa_cons (pe_op op_add (pv 8) pe_int) pa_nil))) pa_nil)) pa_nil))))
      (pss_cons (ps_if (PW.pt (pw_or (pt_cmpR (neDK (K := K) rfl hr.units) (pe_ok (ok__law_ask_lot T) (hr.mono (by first | decide | omega)) rfl pass0 (pa_cons (pv 11) (pa_cons (pv 5) pa_nil))) (pv 12) (nomark _)) (pw_or1 (pt_cmpR (neDK (K := K) rfl hr.units) (pe_ok (ok__law_ask_slips T) (hr.mono (by first | decide | omega)) rfl pass0 (pa_cons (pv 11) (pa_cons (pv 6) pa_nil))) (pv 12) (nomark _))))) (pss_one (ps_ret pe_bl)) pss_nil)
      (pss_cons (ps_set (i := 13) sc__law_errors_right.nd rfl (by first | exact Or.inl rfl | exact Or.inr rfl) (pe_ok (ok__law_bent_weather T) (hr.mono (by first | decide | omega)) rfl pass0 (pa_cons (pv 0) (pa_cons (pe_ix (ix_listK (K := K) rfl) (pv 4) pe_int (fun _ _ => rfl)) pa_nil))))
      (pss_cons (ps_set (i := 14) sc__law_errors_right.nd rfl (by first | exact Or.inl rfl | exact Or.inr rfl) (pe_ok (ok__law_first_wrong T) (hr.mono (by first | decide | omega)) rfl pass0 (pa_cons (pv 2) (pa_cons (pe_ok (ok__law_can_rains T) (hr.mono (by first | decide | omega)) rfl pass0 (pa_cons (pv 3) pa_nil)) (pa_cons (pv 13) pa_nil)))))
      (pss_cons (ps_if (pt_cmpR (neDK (K := K) rfl hr.units) (pe_ok (ok__law_ask_undecided T) (hr.mono (by first | decide | omega)) rfl pass0 (pa_cons (pv 11) (pa_cons (pe_lst (pa_cons (pv 13) pa_nil)) pa_nil))) (pv 12) (nomark _)) (pss_one (ps_ret pe_bl)) pss_nil)
      (pss_cons (ps_if (PW.pt (pw_and (pt_cmpR op_ge (pv 14) pe_int (nomark _)) (pw_and1 (pt_cmpR (neDK (K := K) rfl hr.units) (pe_ok (ok__law_ask_undecided T) (hr.mono (by first | decide | omega)) rfl pass0 (pa_cons (pv 1) (pa_cons (pe_lst (pa_cons (pe_ix (ix_listK (K := K) rfl) (pv 4) pe_int (fun _ _ => rfl)) (pa_cons (pv 13) (pa_cons (pe_op op_rep (pe_lst (pa_cons (pe_lst pa_nil) pa_nil)) (pe_op op_add (pv 2) pe_int)) pa_nil)))) pa_nil))) (pe_tup (pa_cons pe_str (pa_cons (pe_lst (pa_cons (pe_tup (pa_cons pe_str (pa_cons (pv 14) pa_nil))) pa_nil)) pa_nil))) (nomark _))))) (pss_one (ps_ret pe_bl)) pss_nil)
      (pss_cons (ps_if (pt_cmpR op_gt (pe_ok (ok__law_draw T) (hr.mono (by first | decide | omega)) rfl pass0 (pa_cons (pv 0) (pa_cons pe_int pa_nil))) pe_int (nomark _)) (pss_one (ps_ret pe_bl)) pss_nil)
      (pss_cons (ps_if (pt_cmpR (neDK (K := K) rfl hr.units) (pe_ok (ok__law_ask_undecided T) (hr.mono (by first | decide | omega)) rfl pass0 (pa_cons (pv 11) (pa_cons (pe_op op_rep (pe_lst (pa_cons (pv 13) pa_nil)) pe_int) pa_nil))) (pe_tup (pa_cons pe_str (pa_cons (pe_lst (pa_cons (pe_tup (pa_cons pe_str (pa_cons pe_str pa_nil))) pa_nil)) pa_nil))) (nomark _)) (pss_one (ps_ret pe_bl)) pss_nil)
      (pss_cons (ps_set (i := 15) sc__law_errors_right.nd rfl (by first | exact Or.inl rfl | exact Or.inr rfl) (pe_ok (ok__law_key_list T) (hr.mono (by first | decide | omega)) rfl pass0 (pa_cons (pv 2) (pa_cons (pe_ok (ok__law_span_table T) (hr.mono (by first | decide | omega)) rfl pass0 (pa_cons (pv 2) (pa_cons (pv 3) pa_nil))) pa_nil))))
      (pss_cons (ps_set (i := 12) sc__law_errors_right.nd rfl (by first | exact Or.inl rfl | exact Or.inr rfl) (pe_tup (pa_cons pe_str (pa_cons (pe_ok (ok__law_undecided T) (hr.mono (by first | decide | omega)) rfl pass0 (pa_cons (pv 3) (pa_cons (pv 15) (pa_cons (pe_slice (sl_listK (K := K) rfl) (pv 4) po_none (po_some pe_int)) pa_nil)))) pa_nil))))
      (pss_one (ps_ret (pe_ok (ok__law_matches T) (hr.mono (by first | decide | omega)) rfl pass0 (pa_cons (pe_ok (ok__law_ask_undecided T) (hr.mono (by first | decide | omega)) rfl pass0 (pa_cons (pv 1) (pa_cons (pe_op op_rep (pe_slice (sl_listK (K := K) rfl) (pv 4) po_none (po_some pe_int)) pe_int) pa_nil))) (pa_cons (pv 12) pa_nil)))))))))))))))))))))))), ?_⟩
    have hgb := SpanOk.good hT hs
    have hg : ∀ r ∈ ws.map canR, GoodR r := fun r hr => (hgb r hr).1
    have hwl' : (ws.map canR).length ≤ 40 := by rw [List.length_map]; exact hw
    have slsa : sl ≠ sa := rep_ne hst hsl hX
    obtain ⟨hW0l, hfb0⟩ := right_len hright
    -- a bad lot
    refine ⟨_, rfl, _, rfl, _, rfl, TT, rfl, hT, fun q zs H1 s1 hq g1 hS => ⟨_, rfl, q, _, rfl, SqL.of g1, fun c hc => ?_⟩⟩
    have ecut3 : cutV zs none (some 3) = zs.take 3 := cut_take zs (k := 3) rfl
    obtain ⟨s2, g2⟩ := new2 (.lst (cutV zs none (some 3))) hc
    have hP2 := paired_take 3 (Paired.mapP hS fun _ _ z => z.same s2)
    rw [← ecut3] at hP2
    refine ⟨TT, sa, c, cutV zs none (some 3), (strL TT).take 3, rfl, (hst.same s1).same s2, g2, hP2, by rw [List.length_take]; omega, hT1, hT, fun sx hsx => strL_ok (List.mem_of_mem_take hsx), fun t b x bs lt n sx H3 b3 st3 g3 gb hPb hlt hn hxs hbad hbefore => ⟨t, _, rfl, SqT.of g3, rfl, _, _, rfl, _, _, rfl, rfl, ?_⟩⟩
    have c3 : But sa H H3 := (But.of (s1.trans s2)).trans b3
    clear b3 s1 s2 g1 g2 hS hc hq
    -- bad
    refine ⟨_, rfl, hxs.i0 ⟨_, rfl, hxs.i1 ⟨(by show 3 ≤ sizeLine; decide), fun t1 h1 => ⟨(by show 1 ≤ sizeLine; decide), fun l1 h2 => ⟨(by show 2 ≤ sizeLine; decide), fun bd h3 => ?_⟩⟩⟩⟩⟩
    obtain ⟨s4, hRb⟩ := mk_rsd h1 h2 h3
    generalize upd (upd (upd H3 t1 (.tup [.str "BadTable", .int sx.1, .int sx.2])) l1 (.lst [V.ref t1])) bd (.tup [.str "raised", .ref l1]) = H4 at s4 hRb ⊢
    have st4 := st3.same s4
    have c4 := c3.trans (But.of s4)
    have gb4 := s4 _ _ gb
    have hPb4 := Paired.mapP hPb fun _ _ z => z.same s4
    have hxs4 := hxs.same s4
    clear h1 h2 h3 st3 c3 gb hPb hxs s4 g3
    have hA4 := hA.but hst c4
    refine ⟨_, rfl, _, rfl, TT, p, b, ws.map canR, bs, lt, rfl, hA4, gb4, hPb4, by omega, hT, hwl', hgb, fun z => absurd hlt (by omega), fun _ m hm => (no_bad hm).elim, fun _ _ m u hu hbad' hno r H5 s5 hR => ?_, fun _ hall => absurd (hall sx (List.mem_of_getElem? hn)) hbad⟩
    obtain rfl := first_uniq hn hbad hbefore hu hbad' hno
    refine ⟨_, rfl, ne_tab hR (hRb.same s5) ⟨_, rfl, ?_⟩⟩
    refine ⟨_, rfl, _, rfl, TT, p, x, ws.map canR, sx, rfl, hA4.same s5, hxs4.same s5, hT1, hT, hwl', hg, fun m hm => (no_bad hm).elim, fun _ _ r2 H6 s6 hR2 => ?_, fun _ a' b' e hab hb => ?_⟩
    rotate_left
    · refine absurd ?_ hbad
      subst e
      unfold StrOk
      show (0 : Int) ≤ a' ∧ (b' : Int) ≤ TT ∧ (a' : Int) < b'
      omega
    refine ⟨_, rfl, ne_tab hR2 ((hRb.same s5).same s6) ⟨_, rfl, ?_⟩⟩
    have s56 := s5.trans s6
    have c6 := c4.trans (But.of s56)
    have st6 := st4.same s56
    have gb6 := s56 _ _ gb4
    have hPb6 := Paired.mapP hPb4 fun _ _ z => z.same s56
    have hxs6 := hxs4.same s56
    clear hR hR2 s5 s6 s56 st4 c4 gb4 hPb4 hxs4 hRb hA4
    -- fifteen
    refine ⟨_, rfl, _, rfl, (by show 2 ≤ sizeLine; decide), fun t2 h1 => ⟨(by show 1 ≤ sizeLine; decide), fun l2 h2 => ⟨l2, 15, _, rfl, rfl, upd_same, by decide, by decide, (by show 1 * 15 ≤ sizeLine; decide), fun m2 h3 => ?_⟩⟩⟩
    obtain ⟨s7, g7⟩ := new2 (.tup [.int 0, .int (TT : Int)]) h1
    obtain ⟨s8, g8⟩ := new2 (.lst [V.ref t2]) h2
    obtain ⟨s9, g9⟩ := new2 (.lst (List.replicate (15 : Int).toNat [V.ref t2]).flatten) h3
    have hP9 := paired_rep (show PairT _ (V.ref t2) ((0 : Int), (TT : Int)) from ⟨t2, rfl, s9 _ _ (s8 _ _ g7)⟩) 15
    have s69 := s7.trans (s8.trans s9)
    generalize upd _ m2 (.lst (List.replicate (15 : Int).toNat [V.ref t2]).flatten) = H9 at s69 g9 hP9 ⊢
    have c9 := c6.trans (But.of s69)
    have l15 : (List.replicate 15 ((0 : Int), (TT : Int))).length = 15 := List.length_replicate
    refine ⟨TT, p, m2, ws.map canR, _, _, rfl, hA.but hst c9, g9, hP9, by omega, hT, hwl', hgb, fun _ r H10 s10 hR => ?_, fun z => absurd z (by omega), fun z => absurd z (by omega), fun z => absurd z (by omega)⟩
    refine ⟨(by show 2 ≤ sizeLine; decide), fun t3 h1 => ⟨(by show 1 ≤ sizeLine; decide), fun l3 h2 => ⟨(by show 2 ≤ sizeLine; decide), fun d3 h3 => ?_⟩⟩⟩
    obtain ⟨s11, hR11⟩ := mk_rsd h1 h2 h3
    refine ne_str (by decide +kernel) (by decide +kernel) (hR.same s11) hR11 ⟨_, rfl, ?_⟩
    generalize upd (upd (upd H10 t3 (.tup [.str "TooMany", .str "lot"])) l3 (.lst [V.ref t3])) d3 (.tup [.str "raised", .ref l3]) = H11 at s11 ⊢
    have s611 := s69.trans (s10.trans s11)
    have c11 := c9.trans (But.of (s10.trans s11))
    have st11 := st6.same s611
    have gb11 := s611 _ _ gb6
    have hPb11 := Paired.mapP hPb6 fun _ _ z => z.same s611
    have hxs11 := hxs6.same s611
    clear h1 h2 h3 hR s7 s8 s9 s69 s10 s11 s611 c9 c6 st6 gb6 hPb6 hxs6 g7 g8 g9 hP9 hR11
    -- fourteen
    refine ⟨_, rfl, _, rfl, (by show 2 ≤ sizeLine; decide), fun t2 h1 => ⟨(by show 1 ≤ sizeLine; decide), fun l2 h2 => ⟨l2, 14, _, rfl, rfl, upd_same, by decide, by decide, (by show 1 * 14 ≤ sizeLine; decide), fun m2 h3 => ?_⟩⟩⟩
    obtain ⟨s7, g7⟩ := new2 (.tup [.int 0, .int (TT : Int)]) h1
    obtain ⟨s8, g8⟩ := new2 (.lst [V.ref t2]) h2
    obtain ⟨s9, g9⟩ := new2 (.lst (List.replicate (14 : Int).toNat [V.ref t2]).flatten) h3
    have hP9 := paired_rep (show PairT _ (V.ref t2) ((0 : Int), (TT : Int)) from ⟨t2, rfl, s9 _ _ (s8 _ _ g7)⟩) 14
    have s12 := s7.trans (s8.trans s9)
    generalize upd _ m2 (.lst (List.replicate (14 : Int).toNat [V.ref t2]).flatten) = H12 at s12 g9 hP9 ⊢
    have c12 := c11.trans (But.of s12)
    have l14 : (List.replicate 14 ((0 : Int), (TT : Int))).length = 14 := List.length_replicate
    refine ⟨TT, p, m2, ws.map canR, _, _, rfl, hA.but hst c12, g9, hP9, by omega, hT, hwl', hgb, fun z => absurd z (by omega), fun _ m hm => (no_bad hm).elim, fun _ _ m u hu hbad' => ?_, fun _ _ ws' e => ?_⟩
    · refine absurd ?_ hbad'
      rw [(List.mem_replicate.mp (List.mem_of_getElem? hu)).2]
      unfold StrOk
      show (0 : Int) ≤ 0 ∧ (TT : Int) ≤ TT ∧ (0 : Int) < TT
      omega
    obtain rfl := canR_inj e
    refine ⟨fun m c r H' hc hz => absurd hz (whole_ok hs hT1 14 c (List.mem_of_getElem? hc)), fun hall r m H13 s13 g13 hW13 => ?_⟩
    refine .inr (.inl ⟨r, _, 0, _, rfl, rfl, SqT.of g13, rfl, rfl, _, rfl, ?_⟩)
    rw [decide_eq_true rfl]
    refine iteF ?_
    have s1113 := s12.trans s13
    have c13 := c12.trans (But.of s13)
    have st13 := st11.same s1113
    have gb13 := s1113 _ _ gb11
    have hPb13 := Paired.mapP hPb11 fun _ _ z => z.same s1113
    have hxs13 := hxs11.same s1113
    clear h1 h2 h3 s7 s8 s9 s12 s13 s1113 c12 c11 st11 gb11 hPb11 hxs11 g7 g8 g9 hP9 g13 hW13
    -- row
    have hsl13 := c13 _ _ hsl slsa
    have hxl : xs.length = ws.length := Paired.length hX
    refine ⟨_, rfl, _, rfl, _, _, rfl, .inl (SqL.of hsl13), sa, _, rfl, by omega, by omega, st13, fun rw' a1 b1 c1 r0 r1 => ?_⟩
    obtain ⟨b14, st14⟩ := drew (H := H13) (sa := sa) a1 b1 c1
    generalize upd H13 sa (stk a1 b1 c1) = H14 at b14 st14 ⊢
    obtain ⟨rn, rfl⟩ : ∃ n : Nat, rw' = (n : Int) := ⟨rw'.toNat, by omega⟩
    have c14 := c13.trans b14
    obtain ⟨x0, y0, z0, hst0⟩ := id hst
    obtain ⟨x13, y13, z13, hst13⟩ := id st13
    have gb14 := b14 _ _ gb13 (rep_ne st13 gb13 hPb13)
    have hPb14 := Paired.mapP hPb13 fun _ _ z => z.but hst13 b14
    have hxs14 := hxs13.but hst13 b14
    have hX14 := Paired.mapP hX fun _ _ z => z.but hst0 c14
    have hsl14 := c14 _ _ hsl slsa
    clear c13 st13 gb13 hPb13 hxs13 hsl13 hst13 b14
    -- rains
    refine ⟨_, rfl, sl, rfl, ⟨_, SqL.of hsl14⟩, fun D hD => lc_acc (K := K) (a := sl) (xs := xs) hD (SqL.of hsl14) (by omega) (fun j acc H' => Paired (QuadT H') acc ((ws.take j).map canR)) (fun _ _ => .nil) ?_ ?_⟩
    · rintro j y acc H15 N N0 hy s15 hacc hI hN hN0
      obtain ⟨c, hc, hr⟩ := paired_get hX14 hy
      have hr := hr.same s15
      refine gnE ⟨rfl, ?_⟩
      refine ⟨_, rfl, hr.i0 ⟨_, rfl, hr.i1 ⟨(by show 4 ≤ sizeLine; decide), fun t ht => ?_⟩⟩⟩
      obtain ⟨s16, g16⟩ := new2 (.tup [.int c.1, .int c.2, .int 1, .int 1]) ht
      have hacc16 := s16 _ _ hacc
      refine hN _ _ s16 fun H17 b17 _ => ?_
      rw [take_get hc, List.map_append]
      exact Paired.snoc (Paired.mapP hI fun _ _ z => (z.same s16).but hacc16 b17) (QuadT.but hacc16 b17 (⟨t, rfl, g16⟩ : QuadT _ (.ref t) (canR c)))
    · rintro acc H15 s15 hacc hal hI
      rw [hxl, List.take_length] at hI
      have hacl : acc.length = ws.length := by rw [Paired.length hI, List.length_map]
      obtain ⟨cr, hcr⟩ : ∃ c, ws[rn]? = some c := ⟨ws[rn]'(by omega), List.getElem?_eq_getElem _⟩
      obtain ⟨yr, hyr⟩ : ∃ y, acc[rn]? = some y := ⟨acc[rn]'(by omega), List.getElem?_eq_getElem _⟩
      obtain ⟨qr, hqr, hqq⟩ := paired_get hI hyr
      rw [List.getElem?_map, hcr] at hqr
      cases hqr
      refine ⟨_, rfl, _, rfl, D, acc, _, yr, rfl, rfl, SqL.of hacc, at_of rfl hyr, hqq.ix (i := 0) rfl ⟨_, rfl, _, rfl, D, acc, _, yr, rfl, rfl, SqL.of hacc, at_of rfl hyr, hqq.ix (i := 1) rfl ⟨(by show 4 ≤ sizeLine; decide), fun t ht => ?_⟩⟩⟩
      obtain ⟨s16, g16⟩ := new2 (.tup [.int (canR cr).1, .int (canR cr).2.1, .int 1, .int 2]) ht
      have hacc16 := s16 _ _ hacc
      have hI16 := Paired.mapP hI fun _ _ z => z.same s16
      refine ⟨_, rfl, _, rfl, D, acc, _, rn, rfl, rfl, hacc16, ix_nat (by omega), ?_⟩
      have hQ17 : Paired (QuadT (upd (upd H15 t (.tup [.int (canR cr).1, .int (canR cr).2.1, .int 1, .int 2])) D (.lst (acc.set rn (.ref t))))) (acc.set rn (.ref t)) ((ws.map canR).set rn (cr.1, cr.2, 1, 2)) :=
        paired_setv (QuadT.mut hacc16 ⟨t, rfl, g16⟩) rn (Paired.mapP hI16 fun _ _ z => z.mut hacc16)
      have e17 : Same H14 (upd (upd H15 t (.tup [.int (canR cr).1, .int (canR cr).2.1, .int 1, .int 2])) D (.lst (acc.set rn (.ref t)))) := same_mut (s15.trans s16) hD
      have g17 : upd (upd H15 t (.tup [.int (canR cr).1, .int (canR cr).2.1, .int 1, .int 2])) D (.lst (acc.set rn (.ref t))) D = some (.lst (acc.set rn (.ref t))) := upd_same
      generalize upd (upd H15 t (.tup [.int (canR cr).1, .int (canR cr).2.1, .int 1, .int 2])) D (.lst (acc.set rn (.ref t))) = H17 at hQ17 e17 g17 ⊢
      generalize acc.set rn (.ref t) = acc' at hQ17 g17
      clear hI16 hacc16 s16 g16 ht hqq hyr hacl hI hacc hal s15
      have hrs : ((ws.map canR).set rn (cr.1, cr.2, 1, 2)).length ≤ 40 := by rw [List.length_set]; exact hwl'
      have hgo : ∀ r ∈ (ws.map canR).set rn (cr.1, cr.2, 1, 2), GoodR r ∧ r.2.1 ≤ 1000 := fun r hr => by
        rcases List.mem_or_eq_of_mem_set hr with h | rfl
        · exact hgb r h
        · obtain ⟨⟨h1, h2, _⟩, h3⟩ := hgb (canR cr) (List.mem_map.mpr ⟨cr, List.mem_of_getElem? hcr, rfl⟩)
          exact ⟨⟨h1, h2, by show (0 : Int) ≤ 1; decide, by show (1 : Int) ≤ 2; decide, by show (2 : Int) ≤ 10 ^ 12; decide⟩, h3⟩
      have hrn : rn < (ws.map canR).length := by rw [List.length_map]; exact (List.getElem?_eq_some_iff.mp hcr).1
      have hBad : BadCan ((ws.map canR).set rn (cr.1, cr.2, 1, 2)) rn := by
        refine ⟨(cr.1, cr.2, 1, 2), List.getElem?_set_self hrn, fun m hm r hr => ?_, fun z => absurd (show (2 : Int) = 1 from z.2) (by decide)⟩
        rw [List.getElem?_set_ne (by omega)] at hr
        exact can_one r (List.mem_of_getElem? hr)
      generalize (ws.map canR).set rn (cr.1, cr.2, 1, 2) = rs' at hQ17 hrs hgo hBad
      have nob : OneCan rs' → False := fun h => by
        obtain ⟨r, h1, h2, h3⟩ := hBad
        exact h3 (h r (List.mem_of_getElem? h1))
      -- the other sky
      refine ⟨_, rfl, _, rfl, made g17 hQ17 (by omega) (by omega) hrs (fun r hr => (hgo r hr).1) fun op H18 hop s18 hA18 => ?_⟩
      refine ⟨_, rfl, _, _, rfl, rfl, (by show 2 ≤ sizeLine; decide), fun t3 h1 => ⟨(by show 1 ≤ sizeLine; decide), fun l3 h2 => ⟨(by show 2 ≤ sizeLine; decide), fun du h3 => ?_⟩⟩⟩
      obtain ⟨s19, hDu⟩ := mk_rsd (tl := [.str "BadSky", .int ((rn : Int) + 1)]) h1 h2 h3
      generalize upd _ du (.tup [.str "raised", .ref l3]) = H19 at s19 hDu ⊢
      have s1419 := e17.trans (s18.trans s19)
      have c19 := c14.trans (But.of s1419)
      have st19 := st14.same s1419
      have gb19 := s1419 _ _ gb14
      have hPb19 := Paired.mapP hPb14 fun _ _ z => z.same s1419
      have hxs19 := hxs14.same s1419
      have hA19 := hA18.same s19
      clear h1 h2 h3 s1419 s18 e17 g17 hQ17 hA18 c14 st14 gb14 hPb14 hxs14 hX14 hsl14
      refine ⟨_, rfl, _, rfl, TT, op, b, rs', bs, lt, rfl, hA19, gb19, hPb19, by omega, hT, hrs, hgo, fun z => absurd hlt (by omega), fun _ m hm r H20 s20 hR => ?_, fun _ h => (nob h).elim, fun _ _ ws' e => (nob (by rw [e]; exact can_one)).elim⟩
      obtain rfl := bad_uniq hBad hm
      refine ⟨_, rfl, ne_int (by decide +kernel) hR (hDu.same s20) ⟨_, rfl, ?_⟩⟩
      refine ⟨_, rfl, _, rfl, TT, op, x, rs', sx, rfl, hA19.same s20, hxs19.same s20, hT1, hT, hrs, fun r hr => (hgo r hr).1, fun m hm r2 H21 s21 hR2 => ?_, fun h => (nob h).elim, fun h => (nob h).elim⟩
      obtain rfl := bad_uniq hBad hm
      have hDu21 := (hDu.same s20).same s21
      refine ⟨_, rfl, ne_int (by decide +kernel) hR2 hDu21 ⟨_, rfl, ?_⟩⟩
      have s1921 := s20.trans s21
      have c21 := c19.trans (But.of s1921)
      have st21 := st19.same s1921
      have hA21 := hA19.same s1921
      clear hR hR2 s20 s21 s1921 c19 st19 gb19 hPb19 hxs19 hA19 hDu s19
      -- a wrong weather
      have hwl21 := c21 _ _ hwl wsa
      refine ⟨_, rfl, _, rfl, wl, ys, _, _, rfl, rfl, SqL.of hwl21, at_of (j := 0) rfl hy0, sa, a0, W0, rfl, st21, hW0.but hst c21, by omega, by omega, htot, fun wb Wb H22 b22 st22 hWb hWbl hWbt => ?_⟩
      have c22 := c21.trans b22
      have hA22 := hA21.but st21 b22
      have hDu22 := hDu21.butS st21 b22
      clear st21 b22 hDu21 hA21 hwl21 c21
      refine ⟨_, rfl, _, rfl, sl, xs, ws, rfl, c22 _ _ hsl slsa, Paired.mapP hX fun _ _ z => z.but hst0 c22, hw, fun rl qs H23 hrl s23 g23 hQ23 => ?_⟩
      refine ⟨_, rfl, TT, rl, wb, qs, ws.map canR, Wb, rfl, g23, hQ23, hWb.same s23, hT, by omega, hwl', hg, by omega, fun H24 s24 => ?_⟩
      have s2224 := s23.trans s24
      have hWb24 := hWb.same s2224
      have hDu24 := hDu22.same s2224
      have hA24 := hA22.same s2224
      have c24 := c22.trans (But.of s2224)
      have st24 := st22.same s2224
      clear s23 s24 s2224 g23 hQ23 hDu22 hA22 c22 st22 hWb
      -- of the other sky
      refine ⟨_, rfl, _, rfl, (by show 1 ≤ sizeLine; decide), fun ml hml => ?_⟩
      obtain ⟨s25, g25⟩ := new2 (.lst [V.ref wb]) hml
      refine ⟨TT, op, ml, rs', [.ref wb], [Wb], rfl, hA24.same s25, g25, .cons ⟨wb, rfl, hWb24.same s25⟩ .nil, hT, hrs, fun r hr => (hgo r hr).1, fun W hW => by rw [List.mem_singleton.mp hW]; omega, fun z => absurd z (by show ¬ 2000 < 1; omega), fun _ m hm r H26 s26 hR => ?_, fun _ h => (nob h).elim, fun _ h => (nob h).elim⟩
      obtain rfl := bad_uniq hBad hm
      have hDu26 := (hDu24.same s25).same s26
      refine ⟨_, rfl, ne_int (by decide +kernel) hR hDu26 ⟨_, rfl, iteF (nxE ?_)⟩⟩
      have s2426 := s25.trans s26
      have c26 := c24.trans (But.of s2426)
      have st26 := st24.same s2426
      have hA26 := hA24.same s2426
      have hWb26 := hWb24.same s2426
      clear hR s25 s26 s2426 c24 st24 hA24 hWb24 hDu24 g25 hml
      -- the first wrong one of three
      refine (seq_via (fun σ' H27 => σ' = [some (.ref sa), some (.ref p), some (.int TT), some (.ref sl), some (.ref wl), some (.ref b), some x, some (.ref bd), some (.int (rn : Int)), none, some (.ref D), some (.ref op), some (.ref du), some (.ref wb), some (.int (wrongOf (ws.map canR) TT Wb)), none] ∧ Same H26 H27) (fun U hU => ?_) ?_)
      · refine ⟨_, rfl, _, _, rfl, rfl, _, rfl, ?_⟩
        cases qd : decide ((0 : Int) ≤ wrongOf (ws.map canR) TT Wb) with
        | false => exact hU _ _ ⟨rfl, Same.refl _⟩
        | true =>
          have qd := of_decide_eq_true qd
          have hwl26 := c26 _ _ hwl wsa
          refine ⟨_, rfl, _, rfl, wl, ys, _, _, rfl, rfl, SqL.of hwl26, at_of (j := 0) rfl hy0, _, rfl, (by show 0 ≤ sizeLine; decide), fun e1 h1 => ⟨(by show 1 ≤ sizeLine; decide), fun u1 h2 => ⟨_, rfl, _, _, rfl, rfl, u1, _, _, rfl, rfl, upd_same, by omega, by omega, ?_, fun v1 h3 => ⟨(by show 3 ≤ sizeLine; decide), fun ml hml => ?_⟩⟩⟩⟩
          · show 1 * ((TT : Int) + 1).toNat ≤ sizeLine
            exact line_of (by omega)
          obtain ⟨s27, g27⟩ := new2 (.lst []) h1
          obtain ⟨s28, g28⟩ := new2 (.lst [V.ref e1]) h2
          obtain ⟨s29, g29⟩ := new2 (.lst (List.replicate ((TT : Int) + 1).toNat [V.ref e1]).flatten) h3
          obtain ⟨s30, g30⟩ := new2 (.lst [V.ref a0, V.ref wb, V.ref v1]) hml
          have s2630 := s27.trans (s28.trans (s29.trans s30))
          have en : ((TT : Int) + 1).toNat = TT + 1 := by omega
          have hE : WeaT _ v1 (List.replicate (TT + 1) []) := ⟨_, s30 _ _ g29, by
            rw [en]
            exact paired_rep (R := RepT _) (x := V.ref e1) (c := []) ⟨e1, [], rfl, s30 _ _ (s29 _ _ (s28 _ _ g27)), .nil⟩ (TT + 1)⟩
          generalize upd _ ml (.lst [V.ref a0, V.ref wb, V.ref v1]) = H30 at g30 s2630 hE ⊢
          refine ⟨TT, p, ml, ws.map canR, [.ref a0, .ref wb, .ref v1], [W0, Wb, List.replicate (TT + 1) []], rfl, hA.but hst (c26.trans (But.of s2630)), g30, .cons ⟨a0, rfl, hW0.but hst (c26.trans (But.of s2630))⟩ (.cons ⟨wb, rfl, hWb26.same s2630⟩ (.cons ⟨v1, rfl, hE⟩ .nil)), hT, hwl', hg, fun W hW => ?_, fun z => absurd z (by show ¬ 2000 < 3; omega), fun _ m hm => (no_bad hm).elim, fun _ _ m W hW hbadW hno r H31 s31 hR => ?_, fun _ _ hall => ?_⟩
          · simp only [List.mem_cons, List.not_mem_nil, or_false] at hW
            rcases hW with rfl | rfl | rfl
            · omega
            · omega
            · refine ⟨by rw [List.length_replicate]; omega, ?_⟩
              rw [total_rep]
              omega
          · have hm : W = Wb := by
              rcases m with _ | _ | m
              · cases hW
                exact absurd hright hbadW
              · cases hW
                rfl
              · have := hno 1 Wb (by omega) rfl
                omega
            subst hm
            refine ⟨_, rfl, (by show 2 ≤ sizeLine; decide), fun t3 h1 => ⟨(by show 1 ≤ sizeLine; decide), fun l3 h2 => ⟨(by show 2 ≤ sizeLine; decide), fun d3 h3 => ?_⟩⟩⟩
            obtain ⟨s32, hR32⟩ := mk_rsd h1 h2 h3
            exact ne_int (by decide +kernel) (hR.same s32) hR32 ⟨_, rfl, hU _ _ ⟨rfl, s2630.trans (s31.trans s32)⟩⟩
          · have := hall Wb (by simp)
            omega
      rintro σ27 H27 ⟨rfl, s27⟩
      have c27 := c26.trans (But.of s27)
      have st27 := st26.same s27
      have hA27 := hA26.same s27
      have hWb27 := hWb26.same s27
      clear s27 c26 st26 hA26 hWb26 hDu26
      refine ⟨_, rfl, sa, 24, rfl, by decide, by decide, st27, fun u a1 b1 c1 u0 u1 => ⟨_, _, rfl, rfl, _, rfl, ite2 (fun _ => k _) (fun _ => ?_)⟩⟩
      obtain ⟨b28, st28⟩ := drew (H := H27) (sa := sa) a1 b1 c1
      generalize upd H27 sa (stk a1 b1 c1) = H28 at b28 st28 ⊢
      have c28 := c27.trans b28
      have hA28 := hA27.but st27 b28
      have hWb28 := hWb27.but st27 b28
      clear c27 st27 hA27 hWb27 b28
      -- too many
      refine ⟨_, rfl, _, rfl, (by show 1 ≤ sizeLine; decide), fun l2 h2 => ⟨l2, 2001, _, rfl, rfl, upd_same, by decide, by decide, (by show 1 * 2001 ≤ sizeLine; decide), fun m2 h3 => ?_⟩⟩
      obtain ⟨s29, g29⟩ := new2 (.lst [V.ref wb]) h2
      obtain ⟨s30, g30⟩ := new2 (.lst (List.replicate (2001 : Int).toNat [V.ref wb]).flatten) h3
      have s2830 := s29.trans s30
      have hP30 := paired_rep (show WeaV _ (V.ref wb) Wb from ⟨wb, rfl, hWb28.same s2830⟩) 2001
      generalize upd _ m2 (.lst (List.replicate (2001 : Int).toNat [V.ref wb]).flatten) = H30 at g30 s2830 hP30 ⊢
      have l2001 : (List.replicate 2001 Wb).length = 2001 := List.length_replicate
      refine ⟨TT, op, m2, rs', _, _, rfl, hA28.same s2830, g30, hP30, hT, hrs, fun r hr => (hgo r hr).1, fun W hW => by rw [(List.mem_replicate.mp hW).2]; omega, fun _ r H31 s31 hR => ?_, fun z => absurd z (by omega), fun z => absurd z (by omega), fun z => absurd z (by omega)⟩
      refine ⟨(by show 2 ≤ sizeLine; decide), fun t3 h1 => ⟨(by show 1 ≤ sizeLine; decide), fun l3 h2 => ⟨(by show 2 ≤ sizeLine; decide), fun d3 h3 => ?_⟩⟩⟩
      obtain ⟨s32, hR32⟩ := mk_rsd h1 h2 h3
      refine ne_str (by decide +kernel) (by decide +kernel) (hR.same s32) hR32 ⟨_, rfl, ?_⟩
      generalize upd (upd (upd H31 t3 (.tup [.str "TooMany", .str "weathers"])) l3 (.lst [V.ref t3])) d3 (.tup [.str "raised", .ref l3]) = H32 at s32 ⊢
      have c32 := c28.trans (But.of (s2830.trans (s31.trans s32)))
      clear h1 h2 h3 hR hR32 s29 s30 g29 g30 hP30 s2830 s31 s32 c28 st28 hA28 hWb28
      -- keys
      have hsl32 := c32 _ _ hsl slsa
      have hX32 := Paired.mapP hX fun _ _ z => z.but hst0 c32
      have hwl32 := c32 _ _ hwl wsa
      have hW032 := hW0.but hst c32
      refine ⟨_, rfl, _, rfl, _, rfl, TT, sl, xs, ws, rfl, hsl32, hX32, hw, hT, fun tb H33 htb s33 g33 => ⟨TT, tb, tabS ws, rfl, g33, hT, fun kl ks H34 hkl s34 g34 hK34 => ?_⟩⟩
      have s3234 := s33.trans s34
      have ecut : cutV ys none (some 1) = [V.ref a0] := by
        refine (cut_take ys (k := 1) rfl).trans ?_
        cases ys with
        | nil => cases hy0
        | cons y r =>
          cases hy0
          rfl
      refine ⟨_, rfl, _, rfl, _, rfl, _, rfl, wl, ys, rfl, SqL.of (s3234 _ _ hwl32), fun cl hcl => ?_⟩
      obtain ⟨s35, g35⟩ : Same H34 (upd H34 cl (.lst (cutV ys none (some 1)))) ∧ upd H34 cl (.lst (cutV ys none (some 1))) cl = some (.lst [V.ref a0]) := ⟨same_new hcl, by rw [upd_same, ecut]⟩
      have s3235 := s3234.trans s35
      have eT : keysL (tabS ws) TT = keysL (tabR (ws.map canR)) TT := by rw [tabS_R]
      have hund : undL (ws.map canR) TT [W0] = undS ws (keysL (tabS ws) TT) [W0] := by
        rw [eT]
        exact und_same hg fun W hW => by rw [List.mem_singleton.mp hW]; exact hright
      have hund2 : undL (ws.map canR) TT (List.replicate 2000 W0) = undL (ws.map canR) TT [W0] := by
        unfold undL
        refine List.filter_congr fun c _ => ?_
        rw [Bool.eq_iff_iff, List.all_eq_true, List.all_eq_true]
        exact ⟨fun z W hW => by rw [List.mem_singleton.mp hW]; exact z W0 (List.mem_replicate.mpr ⟨by decide, rfl⟩), fun z W hW => by rw [(List.mem_replicate.mp hW).2]; exact z W0 (List.mem_singleton.mpr rfl)⟩
      refine ⟨TT, sl, kl, cl, xs, ks, [.ref a0], ws, keysL (tabS ws) TT, [W0], rfl, s3235 _ _ hsl32, Paired.mapP hX32 fun _ _ z => z.same s3235, s35 _ _ g34, Paired.mapP hK34 fun _ _ z => z.same s35, g35, .cons ⟨a0, rfl, hW032.same s3235⟩ .nil, (by show 1 ≤ 90000; decide), hT, fun c hc => ?_, fun W hW => by rw [List.mem_singleton.mp hW]; exact hright, fun v H36 s36 hv => ?_⟩
      · obtain ⟨a, b, hab, hb, e⟩ := keysL_mem hc
        exact ⟨a, b, hab, hb, e⟩
      refine ⟨(by show 2 ≤ sizeLine; decide), fun d2 hd2 => ?_⟩
      obtain ⟨s37, g37⟩ := new2 (.tup [.str "told", v]) hd2
      rw [← hund] at hv
      have s3237 := s3235.trans (s36.trans s37)
      generalize upd H36 d2 (.tup [.str "told", v]) = H37 at s37 g37 s3237 ⊢
      refine ⟨_, rfl, _, rfl, _, rfl, wl, ys, rfl, SqL.of (s3237 _ _ hwl32), fun cl2 hcl2 => ?_⟩
      obtain ⟨s38, g38⟩ : Same H37 (upd H37 cl2 (.lst (cutV ys none (some 1)))) ∧ upd H37 cl2 (.lst (cutV ys none (some 1))) cl2 = some (.lst [V.ref a0]) := ⟨same_new hcl2, by rw [upd_same, ecut]⟩
      refine ⟨cl2, 2000, [V.ref a0], rfl, rfl, g38, by decide, by decide, (by show 1 * 2000 ≤ sizeLine; decide), fun m3 h3 => ?_⟩
      obtain ⟨s39, g39⟩ := new2 (.lst (List.replicate (2000 : Int).toNat [V.ref a0]).flatten) h3
      have s3739 := s38.trans s39
      have s3239 := s3237.trans s3739
      have hP39 := paired_rep (show WeaV _ (V.ref a0) W0 from ⟨a0, rfl, hW032.same s3239⟩) 2000
      generalize upd _ m3 (.lst (List.replicate (2000 : Int).toNat [V.ref a0]).flatten) = H39 at g39 s3239 s3739 hP39 ⊢
      have l2000 : (List.replicate 2000 W0).length = 2000 := List.length_replicate
      refine ⟨TT, p, m3, ws.map canR, _, _, rfl, hA.but hst (c32.trans (But.of s3239)), g39, hP39, hT, hwl', hg, fun W hW => by rw [(List.mem_replicate.mp hW).2]; omega, fun z => absurd z (by omega), fun _ m hm => (no_bad hm).elim, fun _ _ m W hW hbadW => ?_, fun _ _ hall r v2 H40 s40 g40 hv2 => ?_⟩
      · refine absurd ?_ hbadW
        rw [(List.mem_replicate.mp (List.mem_of_getElem? hW)).2]
        exact hright
      rw [hund2] at hv2
      have g41 := s40 _ _ (s3739 _ _ g37)
      refine ⟨_, rfl, _, _, rfl, mtN_two g40 g41 ?_, fun H42 s42 => k _⟩
      rcases hv with ⟨e1, rfl⟩ | ⟨c, r1, e1, p1⟩
      · rcases hv2 with ⟨e2, rfl⟩ | ⟨c2, r2, e2, p2⟩
        · exact .inl (.inl ⟨rfl, rfl⟩)
        · rw [e1] at e2
          cases e2
      · rcases hv2 with ⟨e2, rfl⟩ | ⟨c2, r2, e2, p2⟩
        · rw [e1] at e2
          cases e2
        · rw [e1] at e2
          cases e2
          exact mtN_up (mtN_pair p2 (((p1.same s37).same s3739).same s40))
end
end K27
end
section
set_option maxRecDepth 100000
set_option maxHeartbeats 4000000
namespace K27
open PySem PySem.Spec PyProof.Rows L2
/-- in how many ways one span may fall -/
def wyO (T : Nat) (c : Int × Int) : Int := max 0 (min c.2 (T : Int) - c.1 + 1) + (if (T : Int) < c.2 then 1 else 0)
theorem wyO_len {T : Nat} {c : Int × Int} : ((optO T c).length : Int) = wyO T c := by
  unfold optO daysO wyO
  rw [List.length_append, List.length_map, List.length_map, List.length_range]
  split
  · show (((_ : Nat) + 1 : Nat) : Int) = _
    omega
  · show (((_ : Nat) + 0 : Nat) : Int) = _
    omega
theorem wyO_one {T : Nat} {f : Int} (h : f ≤ (T : Int) + 1) : wyO T (f, f) = 1 := by
  unfold wyO
  show max 0 (min f (T : Int) - f + 1) + (if (T : Int) < f then 1 else 0) = 1
  split <;> omega
theorem flatMap_eq {α β : Type} {f : α → List β} {k : Nat} : ∀ {l : List α}, (∀ x ∈ l, (f x).length = k) → (l.flatMap f).length = l.length * k
  | [], _ => by rw [List.length_nil, Nat.zero_mul]; rfl
  | x :: t, h => by
    have h1 := h x List.mem_cons_self
    have h2 := flatMap_eq (l := t) fun y hy => h y (List.mem_cons_of_mem _ hy)
    rw [List.flatMap_cons, List.length_append, List.length_cons, Nat.succ_mul]
    omega
theorem allN_app {T : Nat} {ws l : List (Int × Int)} : ∀ {n : Nat}, n ≤ ws.length → allN T (ws ++ l) n = allN T ws n
  | 0, _ => rfl
  | n + 1, h => by
    unfold allN
    rw [allN_app (n := n) (by omega), show (ws ++ l).getD n (0, 0) = ws.getD n (0, 0) by rw [List.getD_eq_getElem?_getD, List.getD_eq_getElem?_getD, List.getElem?_append_left (by omega)]]
/-- the number of ways of all the spans together -/
def prO (T : Nat) (ws : List (Int × Int)) : Int := (((allN T ws ws.length).length : Nat) : Int)
theorem prO_snoc {T : Nat} {ws : List (Int × Int)} {c : Int × Int} : prO T (ws ++ [c]) = prO T ws * wyO T c := by
  unfold prO
  rw [List.length_append]
  show ((((allN T (ws ++ [c]) ws.length).flatMap fun fs => (optO T ((ws ++ [c]).getD ws.length (0, 0))).map fun o => fs ++ [o]).length : Nat) : Int) = _
  rw [flatMap_eq (k := (optO T c).length) fun x _ => by
    rw [List.length_map, List.getD_eq_getElem?_getD, List.getElem?_concat_length]
    rfl, allN_app (Nat.le_refl _), Int.natCast_mul, wyO_len]
section
variable {P : Program} {w : World} {K : PySem.W.Frag} {mg : Str → Option Value} {base : Heap}
def spDrawSpans : Sp := fun vs H Q _ => ∃ (T n : Nat) (sa : Addr) (lim : Int), vs = [.ref sa, .int T, .int n, .int lim] ∧ Stk H sa ∧ 1 ≤ T ∧ T ≤ 24 ∧ n ≤ 40 ∧ 1 ≤ lim ∧ lim ≤ 10 ^ 60 ∧ ∀ l xs ws H', H l = none → But sa H H' → Stk H' sa → H' l = some (.lst xs) → Paired (PairT H') xs ws → ws.length = n → (∀ c ∈ ws, SpanOk T c) → prO T ws ≤ lim → Q (.ref l) H'
theorem ok__law_draw_spans (T : Txt w K mg) : Ok P w K mg base CX0 2 "_law_draw_spans" ["stock", "days", "many", "limit"] spDrawSpans := by
  refine Ok.def0 (f__law_draw_spans T) (fun _ _ _ _ _ _ us hl => match us, hl with | [_, _, _, _], _ => rfl) sc__law_draw_spans (fun vs H Q E h => ?_) (fun f cdv A outer s H vs Q E hr h => ?_)
  · obtain ⟨TT, n, sa, lim, rfl, _⟩ := h
    rfl
  · obtain ⟨TT, n, sa, lim, rfl, hst, hT1, hT, hn, l1, l2, k⟩ := h
    refine ⟨_, (pss_cons (ps_set (i := 4) sc__law_draw_spans.nd rfl (by first | exact Or.inl rfl | exact Or.inr rfl) (pe_lst pa_nil))
      (pss_cons (ps_set (i := 5) sc__law_draw_spans.nd rfl (by first | exact Or.inl rfl | exact Or.inr rfl) pe_int)
      (pss_cons (ps_for PassesOwn.never rfl (pi_range1 rfl (n_range T) (pa_cons (pv 2) pa_nil)) (pg_name (i := 6) sc__law_draw_spans.nd rfl (by first | exact Or.inl rfl | exact Or.inr rfl))
        (pss_cons (ps_set (i := 7) sc__law_draw_spans.nd rfl (by first | exact Or.inl rfl | exact Or.inr rfl) (pe_op op_add pe_int (pe_ok (ok__law_draw T) (hr.mono (by first | decide | omega)) rfl pass0 (pa_cons (pv 0) (pa_cons (pv 1) pa_nil)))))
      (pss_cons (ps_set (i := 8) sc__law_draw_spans.nd rfl (by first | exact Or.inl rfl | exact Or.inr rfl) (pe_callB (call_min2 rfl) rfl (n_min T) (by decide +kernel) (pa_cons (pv 1) (pa_cons (pe_op op_add (pv 7) (pe_ok (ok__law_draw T) (hr.mono (by first | decide | omega)) rfl pass0 (pa_cons (pv 0) (pa_cons pe_int pa_nil)))) pa_nil))))
      (pss_cons (ps_set (i := 9) sc__law_draw_spans.nd rfl (by first | exact Or.inl rfl | exact Or.inr rfl) (pe_ok (ok__law_draw T) (hr.mono (by first | decide | omega)) rfl pass0 (pa_cons (pv 0) (pa_cons pe_int pa_nil))))
      (pss_cons (ps_if (pt_cmpR op_le (pv 9) pe_int (nomark _)) (pss_one (ps_set (i := 8) sc__law_draw_spans.nd rfl (by first | exact Or.inl rfl | exact Or.inr rfl) (pe_op op_add (pe_op op_add (pv 1) pe_int) (pv 9)))) (pss_one (ps_if (pt_cmpR op_eq (pv 9) pe_int (nomark _)) (pss_cons (ps_set (i := 7) sc__law_draw_spans.nd rfl (by first | exact Or.inl rfl | exact Or.inr rfl) (pe_op op_add (pv 1) pe_int))
      (pss_one (ps_set (i := 8) sc__law_draw_spans.nd rfl (by first | exact Or.inl rfl | exact Or.inr rfl) (pe_op op_add (pv 1) pe_int)))) pss_nil)))
      (pss_cons (ps_set (i := 10) sc__law_draw_spans.nd rfl (by first | exact Or.inl rfl | exact Or.inr rfl) (pe_op op_add (pe_callB (call_max2 rfl) rfl (n_max T) (by decide +kernel) (pa_cons pe_int (pa_cons (pe_op op_add (pe_op op_sub (pe_callB (call_min2 rfl) rfl (n_min T) (by decide +kernel) (pa_cons (pv 8) (pa_cons (pv 1) pa_nil))) (pv 7)) pe_int) pa_nil))) (pe_ifExp (pt_cmpR op_gt (pv 8) (pv 1) (nomark _)) pe_int pe_int)))
      (pss_cons (ps_if (pt_cmpR op_gt (pe_op op_mul (pv 5) (pv 10)) (pv 3) (nomark _)) (pss_cons (ps_set (i := 8) sc__law_draw_spans.nd rfl (by first | exact Or.inl rfl | exact Or.inr rfl) (pv 7))
      (pss_one (ps_set (i := 10) sc__law_draw_spans.nd rfl (by first | exact Or.inl rfl | exact Or.inr rfl) pe_int))) pss_nil)
      (pss_cons (ps_set (i := 5) sc__law_draw_spans.nd rfl (by first | exact Or.inl rfl | exact Or.inr rfl) (pe_op op_mul (pv 5) (pv 10)))
      (pss_one (ps_expr (pe_bm PySem.F.plainAttrs_list PySem.F.slot_list_append PySem.F.type_list_append mt_append (pv 4) (pa_cons (pe_tup (pa_cons (pv 7) (pa_cons (pv 8) pa_nil))) pa_nil))))))))))))
      (pss_one (ps_ret (pv 4)))))), ?_⟩
    obtain ⟨sx, sy, sz, hsa⟩ := id hst
    refine ⟨(by show 0 ≤ sizeLine; decide), fun F hF => ?_⟩
    obtain ⟨s1, g1⟩ := new2 (.lst []) hF
    have Fsa : F ≠ sa := fun z => by
      have := hst.ne
      rw [← z, hF] at this
      exact this rfl
    refine ⟨_, rfl, _, rfl, by omega, by omega, for_upto (lo := 0) (L := n) (by omega) (fun i σ H' => ∃ tot v6 v7 v8 v9 v10 xs ws, σ = [some (.ref sa), some (.int TT), some (.int n), some (.int lim), some (.ref F), some (.int tot), v6, v7, v8, v9, v10] ∧ But sa H H' ∧ Stk H' sa ∧ H' F = some (.lst xs) ∧ Paired (PairT H') xs ws ∧ ws.length = i ∧ (∀ c ∈ ws, SpanOk TT c) ∧ tot = prO TT ws ∧ tot ≤ lim) ⟨1, _, _, _, _, _, [], [], rfl, But.of s1, hst.same s1, g1, .nil, rfl, (fun c hc => by cases hc), rfl, l1⟩ ?_ ?_⟩
    · rintro i σ H1 hi ⟨tot, v6, v7, v8, v9, v10, xs, ws, rfl, e1, st1, hF1, hP1, hwl, hok, htt, htl⟩
      refine gnE ?_
      refine ⟨_, rfl, _, rfl, sa, _, rfl, by omega, by omega, st1, fun r a b c r0 r1 => ⟨_, _, rfl, rfl, ?_⟩⟩
      refine ⟨_, rfl, _, rfl, _, rfl, sa, _, rfl, by decide, by decide, ⟨a, b, c, upd_same⟩, fun q a b c q0 q1 => ⟨_, _, rfl, rfl, _, _, rfl, ?_⟩⟩
      refine ⟨_, rfl, sa, _, rfl, by decide, by decide, ⟨a, b, c, upd_same⟩, fun kd a b c k0 k1 => ?_⟩
      generalize hb : upd (upd (upd H1 sa _) sa _) sa _ = H3
      have b3 : But sa H1 H3 := by rw [← hb]; exact (But.refl sa H1).upd.upd.upd
      have st3 : Stk H3 sa := by rw [← hb]; exact ⟨_, _, _, upd_same⟩
      clear hb
      refine nxE (seq_via (fun σ' H4 => ∃ f' l' v9 v10, σ' = [some (.ref sa), some (.int TT), some (.int n), some (.int lim), some (.ref F), some (.int tot), some (.int (0 + (i : Int))), some (.int f'), some (.int l'), v9, v10] ∧ SpanOk TT (f', l') ∧ H4 = H3) (fun U hU => ?_) ?_)
      · have e0 : ∃ mm, (if 1 + r + q < (TT : Int) then 1 + r + q else (TT : Int)) = mm ∧ 1 + r ≤ mm ∧ mm ≤ (TT : Int) := ⟨_, rfl, by split <;> omega, by split <;> omega⟩
        obtain ⟨mm, em, m1, m2⟩ := e0
        refine ⟨_, rfl, _, _, rfl, rfl, _, rfl, ?_⟩
        refine ite2 (fun c => ?_) (fun c => ?_)
        · have c := of_decide_eq_true c
          exact ⟨_, rfl, _, _, rfl, rfl, _, rfl, _, _, rfl, rfl, hU _ _ ⟨1 + r, (TT : Int) + 1 + kd, _, _, rfl, (by unfold SpanOk; refine ⟨?_, ?_, ?_, ?_⟩ <;> simp <;> omega), rfl⟩⟩
        · refine ⟨_, rfl, rfl, _, rfl, ite2 (fun c3 => ?_) (fun c3 => ?_)⟩
          · exact ⟨_, rfl, _, _, rfl, rfl, _, rfl, _, _, rfl, rfl, hU _ _ ⟨(TT : Int) + 1, (TT : Int) + 2, _, _, rfl, (by unfold SpanOk; refine ⟨?_, ?_, ?_, ?_⟩ <;> simp <;> omega), rfl⟩⟩
          · refine hU _ _ ⟨1 + r, mm, some (.int kd), v10, ?_, (by unfold SpanOk; refine ⟨?_, ?_, ?_, ?_⟩ <;> simp <;> omega), rfl⟩
            rw [← em]
            rfl
      · rintro σ4 H4 ⟨f', l', v9, v10, rfl, hok', rfl⟩
        have hok'' := hok'
        unfold SpanOk at hok'
        refine st_let (fun v H' => ∃ wy : Int, v = .int wy ∧ wy = wyO TT (f', l') ∧ 0 ≤ wy ∧ wy ≤ 100 ∧ H' = H4) (fun R hR => ?_) ?_
        · refine ⟨_, rfl, _, rfl, _, _, rfl, _, rfl, _, _, rfl, rfl, _, _, rfl, rfl, _, _, rfl, ?_⟩
          rw [min2, max2]
          refine ⟨_, rfl, _, rfl, _, _, rfl, rfl, _, rfl, ite2 (fun c => ?_) (fun c => ?_)⟩
          · have c := of_decide_eq_true c
            exact ⟨_, _, rfl, rfl, hR _ _ ⟨_, rfl, (by unfold wyO; rw [if_pos (show (TT : Int) < l' from c)]), by omega, by omega, rfl⟩⟩
          · have c := of_decide_eq_false (Bool.eq_false_iff.mpr c)
            exact ⟨_, _, rfl, rfl, hR _ _ ⟨_, rfl, (by unfold wyO; rw [if_neg (show ¬ (TT : Int) < l' from c)]), by omega, by omega, rfl⟩⟩
        · rintro v H5 ⟨wy, rfl, ewy, y0, y1, rfl⟩
          refine (seq_via (fun σ' H' => ∃ l'' wy', σ' = [some (.ref sa), some (.int TT), some (.int n), some (.int lim), some (.ref F), some (.int tot), some (.int (0 + (i : Int))), some (.int f'), some (.int l''), v9, some (.int wy')] ∧ SpanOk TT (f', l'') ∧ 0 ≤ wy' ∧ wy' ≤ 100 ∧ wy' = wyO TT (f', l'') ∧ tot * wy' ≤ lim ∧ H' = H5) (fun U hU => ?_) ?_)
          · refine ⟨_, rfl, _, rfl, _, _, rfl, rfl, .inr (by constructor <;> omega), _, rfl, _, _, rfl, rfl, _, rfl, ite2 (fun c => ?_) (fun c => ?_)⟩
            · exact ⟨_, rfl, hU _ _ ⟨f', 1, rfl, by unfold SpanOk; refine ⟨?_, ?_, ?_, ?_⟩ <;> simp <;> omega, by decide, by decide, (wyO_one (show f' ≤ (TT : Int) + 1 by have := hok'.2.2.1; exact this)).symm, by omega, rfl⟩⟩
            · exact hU _ _ ⟨l', wy, rfl, hok'', y0, y1, ewy, Int.not_lt.mp (of_decide_eq_false (Bool.eq_false_iff.mpr c)), rfl⟩
          · rintro σ6 H6 ⟨l'', wy', rfl, hk, w0, w1, ewy', htw, rfl⟩
            have hF6 := b3 _ _ hF1 Fsa
            refine ⟨_, rfl, _, rfl, _, _, rfl, rfl, .inr (by constructor <;> omega), ?_⟩
            refine ⟨_, rfl, .inl ⟨rfl, _, SqL.of hF6⟩, _, rfl, _, rfl, (by show 2 ≤ sizeLine; decide), fun p hp => ?_⟩
            obtain ⟨s7, g7⟩ := new2 (.tup [.int f', .int l'']) hp
            have hF7 := s7 _ _ hF6
            have hxn : xs.length = i := by rw [Paired.length hP1, hwl]
            obtain ⟨tx, ty, tz, hs1⟩ := id st1
            refine ⟨F, xs, _, rfl, rfl, hF7, line_lt (by omega), ?_⟩
            refine ⟨_, _, _, _, _, _, xs ++ [V.ref p], ws ++ [(f', l'')], rfl, (e1.trans (b3.trans (But.of s7))).mut hF, (st3.same s7).but Fsa.symm, upd_same, ?_, by rw [List.length_append, hwl]; rfl, fun c hc => ?_, by rw [prO_snoc, ← htt, ← ewy'], htw⟩
            · exact Paired.snoc (Paired.mapP hP1 fun _ _ z => ((z.but hs1 b3).same s7).mut hF7) (PairT.mut hF7 ⟨p, rfl, g7⟩)
            · rcases List.mem_append.mp hc with hc | hc
              · exact hok c hc
              · rw [List.mem_singleton.mp hc]
                exact hk
    · rintro σ H1 ⟨tot, v6, v7, v8, v9, v10, xs, ws, rfl, e1, st1, hF1, hP1, hwl, hok, htt, htl⟩
      exact ⟨_, rfl, k F xs ws H1 hF e1 st1 hF1 hP1 hwl hok (by omega)⟩
end
end K27
end
section
set_option maxRecDepth 100000
set_option maxHeartbeats 4000000
namespace K27
open PySem PySem.Spec PyProof.Rows L2
/-! ### lists of weathers as data -/
def dR (rep : List (Int × Int)) : PyData := .list (rep.map dP)
def dW (W : List (List (Int × Int))) : PyData := .list (W.map dR)
theorem dp_reps {K : PySem.W.Frag} {H : Hp} {xs : List V} {W : List (List (Int × Int))} (h : Paired (RepT H) xs W) : DpAll K H xs (W.map dR) := by
  induction h with
  | nil => exact .nil
  | cons a _ ih =>
    obtain ⟨l, ys, rfl, h1, h2⟩ := a
    exact .cons (dp_pairs h1 h2) ih
theorem dp_weas {K : PySem.W.Frag} {H : Hp} {xs : List V} {Ws : List (List (List (Int × Int)))} (h : Paired (WeaV H) xs Ws) : DpAll K H xs (Ws.map dW) := by
  induction h with
  | nil => exact .nil
  | cons a _ ih =>
    obtain ⟨l, rfl, ys, h1, h2⟩ := a
    exact .cons (.lst (SqL.of h1) (dp_reps h2)) ih
theorem lay_reps : ∀ W : List (List (Int × Int)), PyData.canLayAll0 (W.map dR) = true
  | [] => by rw [List.map_nil]; unfold PyData.canLayAll0; rfl
  | rep :: r => by
    rw [List.map_cons]
    unfold PyData.canLayAll0
    rw [lay_reps r]
    have : (dR rep).canLay0 = true := lay_pairs rep
    rw [this]
    rfl
theorem lay_weas : ∀ Ws : List (List (List (Int × Int))), PyData.canLayAll0 (Ws.map dW) = true
  | [] => by rw [List.map_nil]; unfold PyData.canLayAll0; rfl
  | W :: r => by
    rw [List.map_cons]
    unfold PyData.canLayAll0
    rw [lay_weas r]
    have : (dW W).canLay0 = true := by
      unfold dW PyData.canLay0
      exact lay_reps W
    rw [this]
    rfl
theorem dep_reps : ∀ W : List (List (Int × Int)), PyData.depthAll (W.map dR) ≤ 3
  | [] => by rw [List.map_nil]; unfold PyData.depthAll; exact Nat.zero_le _
  | rep :: r => by
    rw [List.map_cons]
    unfold PyData.depthAll
    have h := dep_reps r
    have e : (dR rep).depth ≤ 3 := by
      have := dep_pairall rep
      unfold dR PyData.depth
      omega
    omega
theorem dep_weas : ∀ Ws : List (List (List (Int × Int))), PyData.depthAll (Ws.map dW) ≤ 4
  | [] => by rw [List.map_nil]; unfold PyData.depthAll; exact Nat.zero_le _
  | W :: r => by
    rw [List.map_cons]
    unfold PyData.depthAll
    have h := dep_weas r
    have e : (dW W).depth ≤ 4 := by
      have := dep_reps W
      unfold dW PyData.depth
      omega
    omega
theorem shaped_weas (Ws : List (List (List (Int × Int)))) : SeqAt.shaped (PyData.list (Ws.map dW)) = true := by
  unfold SeqAt.shaped
  have h := dep_weas Ws
  have e : (PyData.list (Ws.map dW)).depth ≤ 64 := by
    unfold PyData.depth
    omega
  have f : (PyData.list (Ws.map dW)).canLay0 = true := by
    unfold PyData.canLay0
    exact lay_weas Ws
  rw [f, decide_eq_true e]
  rfl
theorem ne_weas {K : PySem.W.Frag} {H : Hp} {a b : Addr} {xs ys : List V} {Ws : List (List (List (Int × Int)))} {Q : VK} (ha : H a = some (.lst xs)) (hb : H b = some (.lst ys)) (h1 : Paired (WeaV H) xs Ws) (h2 : Paired (WeaV H) ys Ws) (q : Q (.bl false) H) : rNeD K (.ref a) (.ref b) H Q := by
  refine ⟨_, _, .lst (SqL.of ha) (dp_weas h1), .lst (SqL.of hb) (dp_weas h2), shaped_weas Ws, shaped_weas Ws, ?_⟩
  rw [eqv_self (shaped_weas Ws)]
  exact q
/-! ### deep copies, apart from all that was -/
def SeqS {α : Type} (RS : (Addr → Prop) → Hp → V → α → Prop) (S : Addr → Prop) (H : Hp) (v : V) (ds : List α) : Prop := ∃ a xs, v = .ref a ∧ (∀ D, S D → a ≠ D) ∧ H a = some (.lst xs) ∧ Paired (RS S H) xs ds ∧ ds.length ≤ 3000
def spDpS {α : Type} (R : Hp → V → α → Prop) (RS : (Addr → Prop) → Hp → V → α → Prop) : Sp := fun vs H Q _ => ∃ v d, vs = [v] ∧ R H v d ∧ ∀ v' H', Same H H' → RS (fun D => H D ≠ none) H' v' d → Q v' H'
section
variable {P : Program} {w : World} {K : PySem.W.Frag} {mg : Str → Option Value} {base : Heap}
structure Apart {α : Type} (RS : (Addr → Prop) → Hp → V → α → Prop) : Prop where
  same : ∀ S H H' v d, Same H H' → RS S H v d → RS S H' v d
  but : ∀ (S : Addr → Prop) H H' D acc v d, S D → H D = some (.lst acc) → But D H H' → RS S H v d → RS S H' v d
  mono : ∀ (S S' : Addr → Prop) H v d, (∀ D, S' D → S D) → RS S H v d → RS S' H v d
theorem Apart.seq {α : Type} {RS : (Addr → Prop) → Hp → V → α → Prop} (h : Apart RS) : Apart (SeqS RS) where
  same := fun S H H' v d e ⟨a, xs, e1, hs, h1, p, z⟩ => ⟨a, xs, e1, hs, e _ _ h1, Paired.mapP p fun _ _ q => h.same _ _ _ _ _ e q, z⟩
  but := fun S H H' D acc v d hD hl b ⟨a, xs, e1, hs, h1, p, z⟩ => ⟨a, xs, e1, hs, b _ _ h1 (hs D hD), Paired.mapP p fun _ _ q => h.but _ _ _ _ _ _ _ hD hl b q, z⟩
  mono := fun S S' H v d k ⟨a, xs, e1, hs, h1, p, z⟩ => ⟨a, xs, e1, fun D q => hs D (k D q), h1, Paired.mapP p fun _ _ q => h.mono _ _ _ _ _ k q, z⟩
theorem apart_pair : Apart (fun (_ : Addr → Prop) => PairT) where
  same := fun _ _ _ _ _ e h => h.same e
  but := fun _ _ _ _ _ _ _ _ hl b h => h.but hl b
  mono := fun _ _ _ _ _ _ h => h
theorem dpS_gen {α : Type} {R : Hp → V → α → Prop} {RS : (Addr → Prop) → Hp → V → α → Prop} {n : Nat} (T : Txt w K mg) (ok__law_deep : Txt w K mg → Ok P w K mg base CX0 n "_law_deep" ["thing"] (spDpS R RS)) (hS : ∀ H H' v d, Same H H' → R H v d → R H' v d) (hA : Apart RS) :
    Ok P w K mg base CX0 (n + 1) "_law_deep" ["thing"] (spDpS (SeqOf true R) (SeqS RS)) := by
  refine Ok.def0 (f__law_deep T) (fun _ _ _ _ _ _ us hl => match us, hl with | [_], _ => rfl) sc__law_deep (fun vs H Q E h => ?_) (fun f cdv A outer s H vs Q E hr h => ?_)
  · obtain ⟨v, d, rfl, _⟩ := h
    rfl
  · obtain ⟨v, d, rfl, h, k⟩ := h
    refine ⟨_, (pss_cons (ps_if (pt_val (pe_callB (isiK (K := K) rfl) rfl (n_isinstance T) (by decide +kernel) (pa_cons (pv 0) (pa_cons (pe_bltn (v := .ty "list") (u := .type "list") rfl (n_list T) (by decide +kernel) rfl) pa_nil)))) (pss_one (ps_ret (pe_lc (own := [("one", 1)]) rfl sc__law_deep.nd (pi_listK (K := K) rfl (pv 0)) (blkOk_by (N := ["thing", "one"]) (sc := defScope s__law_deep) (by decide +kernel)) (fun _ _ _ _ _ => (pg_name (i := 1) sc__law_deep.nd rfl (by first | exact Or.inl rfl | exact Or.inr rfl))) (fun _ _ _ _ _ => pts_nil) (fun _ _ _ _ _ => (pe_ok (ok__law_deep T) (hr.mono (by first | decide | omega)) rfl pass0 (pa_cons (pv 1) pa_nil)))))) pss_nil)
      (pss_cons (ps_if (pt_val (pe_callB (isiK (K := K) rfl) rfl (n_isinstance T) (by decide +kernel) (pa_cons (pv 0) (pa_cons (pe_bltn (v := .ty "tuple") (u := .type "tuple") rfl (n_tuple T) (by decide +kernel) rfl) pa_nil)))) (pss_one (ps_ret (pe_callTy call_tuple_of rfl (n_tuple T) (by decide +kernel) (pa_cons (pe_lc (own := [("one", 1)]) rfl sc__law_deep.nd (pi_tupK (K := K) rfl (pv 0)) (blkOk_by (N := ["thing", "one"]) (sc := defScope s__law_deep) (by decide +kernel)) (fun _ _ _ _ _ => (pg_name (i := 1) sc__law_deep.nd rfl (by first | exact Or.inl rfl | exact Or.inr rfl))) (fun _ _ _ _ _ => pts_nil) (fun _ _ _ _ _ => (pe_ok (ok__law_deep T) (hr.mono (by first | decide | omega)) rfl pass0 (pa_cons (pv 1) pa_nil)))) pa_nil)))) pss_nil)
      (pss_one (ps_ret (pv 0))))), ?_⟩
    obtain ⟨a, xs, rfl, ha, hP, hz⟩ := h
    have ha : H a = some (.lst xs) := ha
    have hxl := Paired.length hP
    refine ⟨_, rfl, ⟨_, _, _, _, _, rfl, .ty _, tx_lst ha, k_ll, _, rfl, iteT ?_⟩⟩
    refine ⟨_, rfl, a, rfl, ⟨_, SqL.of ha⟩, fun D hD => lc_acc (K := K) (a := a) (xs := xs) hD (SqL.of ha) (by omega) (fun j acc H' => Paired (RS (fun E => E = D ∨ H E ≠ none) H') acc (d.take j)) (fun _ _ => .nil) ?_ ?_⟩
    · rintro j x acc H2 N N0 hx s2 hacc hI hN hN0
      obtain ⟨e, he, hr⟩ := paired_get hP hx
      refine gnE ⟨rfl, ?_⟩
      refine ⟨_, rfl, x, e, rfl, hS _ _ _ _ s2 hr, fun v' H3 s3 h3 => ?_⟩
      have hacc3 := s3 _ _ hacc
      have h3 := hA.mono _ (fun E => E = D ∨ H E ≠ none) _ _ _ (fun E z => by
        rcases z with rfl | z
        · rw [hacc]
          exact fun z => by cases z
        · obtain ⟨o, ho⟩ := Option.ne_none_iff_exists'.mp z
          rw [s2 _ _ ho]
          exact fun z => by cases z) h3
      refine hN _ _ s3 fun H5 b5 _ => ?_
      rw [take_get he]
      exact Paired.snoc (Paired.mapP hI fun _ _ z => hA.but _ _ _ D acc _ _ (.inl rfl) hacc3 b5 (hA.same _ _ _ _ _ s3 z)) (hA.but _ _ _ D acc _ _ (.inl rfl) hacc3 b5 h3)
    · rintro acc H2 s2 hacc _ hI
      rw [hxl, List.take_length] at hI
      exact k _ H2 s2 ⟨D, acc, rfl, fun E z q => z (by rw [← q]; exact hD), hacc, Paired.mapP hI fun _ _ z => hA.mono _ _ _ _ _ (fun E z => .inr z) z, hz⟩
theorem ok_dpS1 (T : Txt w K mg) : Ok P w K mg base CX0 2 "_law_deep" ["thing"] (spDpS PairT (fun _ => PairT)) :=
  (ok_dp1 T).imp fun vs H Q E ⟨v, c, e, h, k⟩ => ⟨v, c, e, h, fun v' H' s h' _ => k v' H' s h'⟩
theorem ok_dpS2 (T : Txt w K mg) : Ok P w K mg base CX0 3 "_law_deep" ["thing"] (spDpS (SeqOf true PairT) (SeqS fun _ => PairT)) :=
  dpS_gen (n := 2) T (fun T => ok_dpS1 T) (fun _ _ _ _ e h => h.same e) apart_pair
theorem ok_dpS3 (T : Txt w K mg) : Ok P w K mg base CX0 4 "_law_deep" ["thing"] (spDpS (SeqOf true (SeqOf true PairT)) (SeqS (SeqS fun _ => PairT))) :=
  dpS_gen (n := 3) T (fun T => ok_dpS2 T) (fun _ _ _ _ e ⟨a, xs, e1, h, p, z⟩ => ⟨a, xs, e1, e _ _ h, Paired.mapP p fun _ _ q => q.same e, z⟩) apart_pair.seq
theorem ok_dpS4 (T : Txt w K mg) : Ok P w K mg base CX0 5 "_law_deep" ["thing"] (spDpS (SeqOf true (SeqOf true (SeqOf true PairT))) (SeqS (SeqS (SeqS fun _ => PairT)))) :=
  dpS_gen (n := 4) T (fun T => ok_dpS3 T) (fun _ _ _ _ e ⟨a, xs, e1, h, p, z⟩ => ⟨a, xs, e1, e _ _ h, Paired.mapP p fun _ _ ⟨b, ys, e2, h2, p2, z2⟩ => ⟨b, ys, e2, e _ _ h2, Paired.mapP p2 fun _ _ q => q.same e, z2⟩, z⟩) apart_pair.seq.seq
end
theorem WeaV.seqOf {H : Hp} {v : V} {W : List (List (Int × Int))} (h : WeaV H v W) (hW : W.length ≤ 100) (ht : total W ≤ 2000) : SeqOf true (SeqOf true PairT) H v W := by
  obtain ⟨p, rfl, xs, h1, h2⟩ := h
  refine ⟨p, xs, rfl, h1, ?_, by omega⟩
  have : ∀ {xs : List V} {W : List (List (Int × Int))}, total W ≤ 2000 → Paired (RepT H) xs W → Paired (SeqOf true PairT H) xs W := by
    intro xs W ht h
    induction h with
    | nil => exact .nil
    | cons a _ ih =>
      rw [total_cons] at ht
      obtain ⟨l, ys, rfl, h1, h2⟩ := a
      exact .cons ⟨l, ys, rfl, h1, h2, by omega⟩ (ih (by omega))
  exact this ht h2
theorem weas_of {S : Addr → Prop} {H : Hp} {v : V} {Ws : List (List (List (Int × Int)))} (h : SeqS (SeqS (SeqS fun _ => PairT)) S H v Ws) : ∃ p xs, v = .ref p ∧ (∀ D, S D → p ≠ D) ∧ H p = some (.lst xs) ∧ Paired (WeaV H) xs Ws := by
  obtain ⟨p, xs, rfl, hs, h1, h2, _⟩ := h
  exact ⟨p, xs, rfl, hs, h1, Paired.mapP h2 fun _ _ ⟨a, ys, e1, _, g1, g2, _⟩ => ⟨a, e1, ys, g1, Paired.mapP g2 fun _ _ ⟨l, zs, e, _, q1, q2, _⟩ => ⟨l, zs, e, q1, q2⟩⟩⟩
end K27
end
section
set_option maxRecDepth 100000
set_option maxHeartbeats 4000000
namespace K27
open PySem PySem.Spec PyProof.Rows L2
theorem SetP.mut {H : Hp} {l d : Addr} {xs : List V} {o : HO} {n : Nat} {p : Int × Int → Bool} (hl : H l = some (.lst xs)) (h : SetP H d n p) : SetP (upd H l o) d n p := by
  obtain ⟨kvs, h1, h2⟩ := h
  refine ⟨kvs, ?_, h2⟩
  rw [upd_ne (fun z => by rw [z, hl] at h1; cases h1)]
  exact h1
theorem RowD.mut {T : Nat} {ws : List (Int × Int)} {H : Hp} {l : Addr} {xs : List V} {o : HO} {y : V} {os : List (Option Int)} (hl : H l = some (.lst xs)) (h : RowD T ws H y os) : RowD T ws (upd H l o) y os := by
  obtain ⟨d, n, rfl, h⟩ := h
  exact ⟨d, n, rfl, SetP.mut hl h⟩
theorem RowD.butS {T : Nat} {ws : List (Int × Int)} {H H' : Hp} {sa : Addr} (hs : Stk H sa) (e : But sa H H') {y : V} {os : List (Option Int)} (h : RowD T ws H y os) : RowD T ws H' y os := by
  obtain ⟨d, n, rfl, kvs, h1, h2⟩ := h
  exact ⟨d, n, rfl, kvs, e _ _ h1 (ne_stk hs h1 fun _ z => by cases z), h2⟩
theorem WeaV.butS {H H' : Hp} {sa : Addr} (hs : Stk H sa) (e : But sa H H') {y : V} {W : List (List (Int × Int))} (h : WeaV H y W) : WeaV H' y W := by
  obtain ⟨a, rfl, h⟩ := h
  exact ⟨a, rfl, h.but hs e⟩
theorem tk_step {L : List (Int × Int)} {j : Nat} {c : Int × Int} (h : L[j]? = some c) (p : Int × Int → Bool) (e : Int × Int) : (decide (e ∈ L.take (j + 1)) && p e) = ((decide (e ∈ L.take j) && p e) || (decide (e = c) && p c)) := by
  rw [take_get h]
  by_cases q : e = c
  · subst q
    rw [Bool.eq_iff_iff]
    simp
  · rw [Bool.eq_iff_iff]
    simp [q]
theorem weas_sub {H : Hp} {xs : List V} {Ws : List (List (List (Int × Int)))} (h : Paired (WeaV H) xs Ws) : ∀ {zs : List V}, (∀ z ∈ zs, z ∈ xs) → ∃ Zs, Paired (WeaV H) zs Zs ∧ ∀ W ∈ Zs, W ∈ Ws
  | [], _ => ⟨[], .nil, fun _ z => by cases z⟩
  | z :: r, hz => by
    obtain ⟨Zs, h1, h2⟩ := weas_sub h (zs := r) fun y hy => hz y (List.mem_cons_of_mem _ hy)
    obtain ⟨i, hi⟩ := List.getElem?_of_mem (hz z List.mem_cons_self)
    obtain ⟨W, hW, hr⟩ := paired_get h hi
    exact ⟨W :: Zs, .cons hr h1, fun V hV => by
      rcases List.mem_cons.mp hV with rfl | hV
      · exact List.mem_of_getElem? hW
      · exact h2 V hV⟩
theorem und_none {T : Nat} {ws : List (Int × Int)} (h1 : ∀ c ∈ ws, 1 ≤ c.1 ∧ c.1 ≤ c.2) (ks : List (Int × Int)) (hk : ∀ c ∈ ks, ∃ a b : Nat, a < b ∧ b ≤ T ∧ c = ((a : Int), (b : Int))) : undS ws ks ((allN T ws ws.length).map fun os => wayR T os ws.length) = [] := by
  unfold undS
  refine List.filter_eq_nil_iff.mpr fun c hc => ?_
  obtain ⟨a, b, hab, hb, rfl⟩ := hk c hc
  obtain ⟨os, ho, h⟩ := one_way (T := T) (ws := ws) h1 hab hb
  intro z
  have := List.all_eq_true.mp z _ (List.mem_map.mpr ⟨os, ho, rfl⟩)
  have e : isT ws (wayR T os ws.length) ((a : Int), (b : Int)).1.toNat ((a : Int), (b : Int)).2.toNat = true := h
  rw [e] at this
  cases this
theorem ways_pos {T : Nat} {ws : List (Int × Int)} (h1 : ∀ c ∈ ws, 1 ≤ c.1 ∧ c.1 ≤ c.2) (hT : 1 ≤ T) : ∃ os r, allN T ws ws.length = os :: r := by
  obtain ⟨os, ho, _⟩ := one_way (T := T) (ws := ws) h1 (a := 0) (b := 1) (by omega) hT
  cases e : allN T ws ws.length with
  | nil => rw [e] at ho; cases ho
  | cons a r => exact ⟨a, r, rfl⟩
theorem paired_both {α β : Type} {R S : α → β → Prop} {xs : List α} {ys : List β} (h : Paired R xs ys) (k : ∀ x, ∀ y ∈ ys, R x y → S x y) : Paired S xs ys := by
  induction h with
  | nil => exact .nil
  | cons r _ ih => exact .cons (k _ _ List.mem_cons_self r) (ih fun x y hy => k x y (List.mem_cons_of_mem _ hy))
end K27
end
section
set_option maxRecDepth 100000
set_option maxHeartbeats 4000000
namespace K27
open PySem PySem.Spec PyProof.Rows L2
section
variable {P : Program} {w : World} {K : PySem.W.Frag} {mg : Str → Option Value} {base : Heap}
def spLaw (K : PySem.W.Frag) : Sp := fun vs H Q _ => ∃ (a : Addr) (ns : List Int), vs = [.ref a] ∧ SqL K H a (ns.map V.int) ∧ ns.length ≤ 63 ∧ ∀ H', Q (.bl true) H'
theorem fn_law (T : Txt w K mg) {f : Addr} {fd : FuncData} (F : FnP K "law" s_law f fd) : FnG P w K mg base 12 f fd ["script"] (spLaw K) := by
  have ok__law_matches := fun (T : Txt w K mg) => ok_mn3 (P := P) (base := base) T
  have ok__law_deep := fun (T : Txt w K mg) => ok_dpS4 (P := P) (base := base) T
  have ok__law_undecided := fun (T : Txt w K mg) => ok_undV (P := P) (base := base) T
  refine LamX.fnG_def0 F sc_law (fun vs H Q E h => ?_) (fun f cdv A outer s H vs Q hr hgd h => ?_)
  · obtain ⟨a, ns, rfl, _⟩ := h
    rfl
  · obtain ⟨a, ns, rfl, hS, hl, k⟩ := h
    let E : XK := E0
    refine ⟨_, (pss_cons (ps_set (i := 1) sc_law.nd rfl (by first | exact Or.inl rfl | exact Or.inr rfl) (pe_ok (ok__law_stock T) (hr.mono (by first | decide | omega)) rfl pass0 (pa_cons (pv 0) (pa_cons pe_int pa_nil))))
      (pss_cons (ps_set (i := 2) sc_law.nd rfl (by first | exact Or.inl rfl | exact Or.inr rfl) (pe_op op_add pe_int (pe_ok (ok__law_draw T) (hr.mono (by first | decide | omega)) rfl pass0 (pa_cons (pv 1) (pa_cons pe_int pa_nil)))))
      (pss_cons (ps_set (i := 3) sc_law.nd rfl (by first | exact Or.inl rfl | exact Or.inr rfl) (pe_ok (ok__law_draw_spans T) (hr.mono (by first | decide | omega)) rfl pass0 (pa_cons (pv 1) (pa_cons (pv 2) (pa_cons (pe_op op_add pe_int (pe_ok (ok__law_draw T) (hr.mono (by first | decide | omega)) rfl pass0 (pa_cons (pv 1) (pa_cons pe_int pa_nil)))) (pa_cons pe_int pa_nil))))))
      (pss_cons (ps_set (i := 4) sc_law.nd rfl (by first | exact Or.inl rfl | exact Or.inr rfl) (pe_ok (ok__law_can_rains T) (hr.mono (by first | decide | omega)) rfl pass0 (pa_cons (pv 3) pa_nil)))
      (pss_cons (ps_set (i := 5) sc_law.nd rfl (by first | exact Or.inl rfl | exact Or.inr rfl) (pe_okK (okk_Almanac T) (hr.mono (by first | decide | omega)) rfl passL (pa_cons (pv 2) (pa_cons (pv 4) pa_nil))))
      (pss_cons (ps_set (i := 6) sc_law.nd rfl (by first | exact Or.inl rfl | exact Or.inr rfl) (pe_ok (ok__law_weathers T) (hr.mono (by first | decide | omega)) rfl pass0 (pa_cons (pv 2) (pa_cons (pv 4) (pa_cons pe_bl pa_nil)))))
      (pss_cons (ps_set (i := 7) sc_law.nd rfl (by first | exact Or.inl rfl | exact Or.inr rfl) (pe_lst pa_nil))
      (pss_cons (ps_for PassesOwn.never rfl (pi_listK (K := K) rfl (pv 6)) (pg_name (i := 8) sc_law.nd rfl (by first | exact Or.inl rfl | exact Or.inr rfl))
        (pss_cons (ps_set (i := 9) sc_law.nd rfl (by first | exact Or.inl rfl | exact Or.inr rfl) pe_dnewT)
      (pss_cons (ps_for PassesOwn.never rfl (pi_listK (K := K) rfl (pe_ok (ok__law_stretches T) (hr.mono (by first | decide | omega)) rfl pass0 (pa_cons (pv 2) pa_nil))) (pg_tupK (K := K) (n := 2) rfl rfl (pgs_cons (pg_name (i := 10) sc_law.nd rfl (by first | exact Or.inl rfl | exact Or.inr rfl)) (pgs_cons (pg_name (i := 11) sc_law.nd rfl (by first | exact Or.inl rfl | exact Or.inr rfl)) pgs_nil)))
        (pss_one (ps_if (pt_val (pe_ok (ok__law_is_tight T) (hr.mono (by first | decide | omega)) rfl pass0 (pa_cons (pv 3) (pa_cons (pv 8) (pa_cons (pv 10) (pa_cons (pv 11) pa_nil)))))) (pss_one (ps_asg pe_bl (pg_sub (pv 9) (pe_tup (pa_cons (pv 10) (pa_cons (pv 11) pa_nil))) (set_dict (du hr.units))))) pss_nil)))
      (pss_one (ps_expr (pe_bm PySem.F.plainAttrs_list PySem.F.slot_list_append PySem.F.type_list_append mt_append (pv 7) (pa_cons (pv 9) pa_nil)))))))
      (pss_cons (ps_for PassesOwn.never rfl (pi_listK (K := K) rfl (pe_ok (ok__law_lots T) (hr.mono (by first | decide | omega)) rfl pass0 (pa_cons (pv 1) (pa_cons (pv 2) pa_nil)))) (pg_name (i := 12) sc_law.nd rfl (by first | exact Or.inl rfl | exact Or.inr rfl))
        (pss_one (ps_if (pt_not (pt_val (pe_ok (ok__law_lot_right T) (hr.mono (by first | decide | omega)) rfl pass0 (pa_cons (pv 5) (pa_cons (pv 2) (pa_cons (pv 3) (pa_cons (pv 7) (pa_cons (pv 12) pa_nil)))))))) (pss_one (ps_ret pe_bl)) pss_nil)))
      (pss_cons (ps_set (i := 13) sc_law.nd rfl (by first | exact Or.inl rfl | exact Or.inr rfl) (pe_ok (ok__law_span_table T) (hr.mono (by first | decide | omega)) rfl pass0 (pa_cons (pv 2) (pa_cons (pv 3) pa_nil))))
      (pss_cons (ps_set (i := 14) sc_law.nd rfl (by first | exact Or.inl rfl | exact Or.inr rfl) (pe_ok (ok__law_key_list T) (hr.mono (by first | decide | omega)) rfl pass0 (pa_cons (pv 2) (pa_cons (pv 13) pa_nil))))
      (pss_cons (ps_for PassesOwn.never rfl (pi_range1 rfl (n_range T) (pa_cons pe_int pa_nil)) (pg_name (i := 15) sc_law.nd rfl (by first | exact Or.inl rfl | exact Or.inr rfl))
        (pss_cons (ps_set (i := 16) sc_law.nd rfl (by first | exact Or.inl rfl | exact Or.inr rfl) (pe_slice (sl_listK (K := K) rfl) (pe_ok (ok__law_mix T) (hr.mono (by first | decide | omega)) rfl pass0 (pa_cons (pv 1) (pa_cons (pv 6) pa_nil))) po_none (po_some (pv 15))))
      (pss_cons (ps_set (i := 17) sc_law.nd rfl (by first | exact Or.inl rfl | exact Or.inr rfl) (pe_ok (ok__law_deep T) (hr.mono (by first | decide | omega)) rfl pass0 (pa_cons (pv 16) pa_nil)))
      (pss_one (ps_if (PW.pt (pw_or (pt_not (pt_val (pe_ok (ok__law_matches T) (hr.mono (by first | decide | omega)) rfl pass0 (pa_cons (pe_ok (ok__law_ask_undecided T) (hr.mono (by first | decide | omega)) rfl pass0 (pa_cons (pv 5) (pa_cons (pv 17) pa_nil))) (pa_cons (pe_tup (pa_cons pe_str (pa_cons (pe_ok (ok__law_undecided T) (hr.mono (by first | decide | omega)) rfl pass0 (pa_cons (pv 3) (pa_cons (pv 14) (pa_cons (pv 16) pa_nil)))) pa_nil))) pa_nil))))) (pw_or1 (pt_cmpR (neDK (K := K) rfl hr.units) (pv 17) (pv 16) (nomark _))))) (pss_one (ps_ret pe_bl)) pss_nil)))))
      (pss_cons (ps_for PassesOwn.never rfl (pi_listK (K := K) rfl (pe_ok (ok__law_stretches T) (hr.mono (by first | decide | omega)) rfl pass0 (pa_cons (pv 2) pa_nil))) (pg_tupK (K := K) (n := 2) rfl rfl (pgs_cons (pg_name (i := 10) sc_law.nd rfl (by first | exact Or.inl rfl | exact Or.inr rfl)) (pgs_cons (pg_name (i := 11) sc_law.nd rfl (by first | exact Or.inl rfl | exact Or.inr rfl)) pgs_nil)))
        (pss_one (ps_if (pt_not (pt_val (pe_ok (ok__law_matches T) (hr.mono (by first | decide | omega)) rfl pass0 (pa_cons (pe_ok (ok__law_ask_slips T) (hr.mono (by first | decide | omega)) rfl pass0 (pa_cons (pv 5) (pa_cons (pe_tup (pa_cons (pv 10) (pa_cons (pv 11) pa_nil))) pa_nil))) (pa_cons (pe_tup (pa_cons pe_str (pa_cons (pe_op op_rep (pe_lst (pa_cons (pe_tup (pa_cons (pe_op op_add (pv 10) pe_int) (pa_cons (pv 11) pa_nil))) pa_nil)) (pe_op op_add (pe_dget (du hr.units) (pv 13) (pe_tup (pa_cons (pv 10) (pa_cons (pv 11) pa_nil))) (fun _ _ => rfl)) pe_int)) pa_nil))) pa_nil))))) (pss_one (ps_ret pe_bl)) pss_nil)))
      (pss_cons (ps_if (pt_not (pt_val (pe_ok (ok__law_matches T) (hr.mono (by first | decide | omega)) rfl pass0 (pa_cons (pe_ok (ok_first_undecided T) (hr.mono (by first | decide | omega)) rfl passL (pa_cons (pv 5) (pa_cons (pv 6) pa_nil))) (pa_cons pe_non pa_nil))))) (pss_one (ps_ret pe_bl)) pss_nil)
      (pss_one (ps_ret (pe_ok (ok__law_errors_right T) (hr.mono (by first | decide | omega)) rfl pass0 (pa_cons (pe_ok (ok__law_stock T) (hr.mono (by first | decide | omega)) rfl pass0 (pa_cons (pv 0) (pa_cons pe_int pa_nil))) (pa_cons (pv 5) (pa_cons (pv 2) (pa_cons (pv 3) (pa_cons (pv 6) pa_nil)))))))))))))))))))))), ?_⟩
    refine ⟨_, rfl, a, ns, _, rfl, hS, hl, by decide, by decide, fun sa H1 hsa s1 st1 => ?_⟩
    -- days
    refine nxE (st_let (fun v H2 => ∃ d : Nat, v = .int (d : Int) ∧ 2 ≤ d ∧ d ≤ 6 ∧ But sa H1 H2 ∧ Stk H2 sa) (fun R hR => ?_) (fun v H2 hv => ?_))
    · exact ⟨_, rfl, sa, 5, rfl, by decide, by decide, st1, fun r x y z r0 r1 => ⟨_, _, rfl, rfl, hR _ _ ⟨(2 + r).toNat, by rw [Int.toNat_of_nonneg (by omega)], by omega, by omega, drew x y z⟩⟩⟩
    obtain ⟨d, rfl, d1, d2, b2, st2⟩ := hv
    -- spans
    refine st_let (fun v H4 => ∃ l xs ws, v = .ref l ∧ H2 l = none ∧ But sa H2 H4 ∧ Stk H4 sa ∧ H4 l = some (.lst xs) ∧ Paired (PairT H4) xs ws ∧ 1 ≤ ws.length ∧ ws.length ≤ 5 ∧ (∀ c ∈ ws, SpanOk d c) ∧ prO d ws ≤ 60) (fun R hR => ?_) (fun v H4 hv => ?_)
    · refine ⟨_, rfl, _, rfl, _, rfl, sa, 5, rfl, by decide, by decide, st2, fun r x y z r0 r1 => ⟨_, _, rfl, rfl, ?_⟩⟩
      obtain ⟨bb, stb⟩ := drew (H := H2) (sa := sa) x y z
      have hne : ∀ l, upd H2 sa (stk x y z) l = none → H2 l = none := fun l h => bb.free stb.ne h
      generalize upd H2 sa (stk x y z) = H3 at bb stb hne ⊢
      obtain ⟨n, hn⟩ : ∃ n : Nat, (1 : Int) + r = (n : Int) := ⟨(1 + r).toNat, by omega⟩
      refine ⟨d, n, sa, 60, by rw [← hn]; rfl, stb, by omega, by omega, by omega, by decide, by decide, fun l xs ws H' h0 b st h1 hP hn' hs hp => hR _ _ ⟨l, xs, ws, rfl, hne l h0, bb.trans b, st, h1, hP, by omega, by omega, hs, hp⟩⟩
    obtain ⟨l, xs, ws, rfl, hl0, b4, st4, hl4, hP4, hw1, hw5, hso, hpr⟩ := hv
    have lsa : l ≠ sa := fun z => st2.ne (by rw [← z]; exact hl0)
    have hgb := SpanOk.good (by omega) hso
    have hg : ∀ r ∈ ws.map canR, GoodR r := fun r hr => (hgb r hr).1
    have hcan : ∀ c ∈ ws, 1 ≤ c.1 ∧ c.1 ≤ c.2 := fun c hc => ⟨(hso c hc).1, (hso c hc).2.1⟩
    have hwl : (ws.map canR).length ≤ 40 := by rw [List.length_map]; omega
    have hal : (allN d ws ws.length).length ≤ 60 := by unfold prO at hpr; omega
    have hwa : ∀ os ∈ allN d ws ws.length, wrongOf (ws.map canR) d (wayR d os ws.length) = -1 := fun os h => way_right (way_all.mp h) fun c hc => (hcan c hc).1
    have e4 : Same H H4 := same_but (Same.refl H) hsa s1 (b2.trans b4)
    clear b2 b4 st1 st2 s1 hl0
    -- rains, the almanac, weathers
    refine ⟨_, rfl, l, xs, ws, rfl, hl4, hP4, by omega, fun rl qs H5 hrl s5 g5 hQ5 => ?_⟩
    refine ⟨_, rfl, _, rfl, made g5 hQ5 (by omega) (by omega) hwl hg fun p H6 hp s6 hA6 => ?_⟩
    refine ⟨_, rfl, _, rfl, d, rl, qs, ws, rfl, s6 _ _ g5, Paired.mapP hQ5 fun _ _ z => z.same s6, by omega, by omega, hso, fun wl ys H7 hwl0 s7 g7 hW7 => ?_⟩
    have s47 := s5.trans (s6.trans s7)
    have wsa : wl ≠ sa := fun z => ((st4.same s5).same s6).ne (by rw [← z]; exact hwl0)
    have hA7 := hA6.same s7
    have hl7 := s47 _ _ hl4
    have hP7 := Paired.mapP hP4 fun _ _ z => z.same s47
    have st7 := st4.same s47
    have e7 := e4.trans s47
    have hyl : ys.length = (allN d ws ws.length).length := by rw [Paired.length hW7, List.length_map]
    have hW7 : Paired (WeaV H7) ys ((allN d ws ws.length).map fun os => wayR d os ws.length) := Paired.mapP hW7 fun _ _ z => z.wea
    clear s47 s5 s6 s7 hA6 hl4 hP4 st4 e4 g5 hQ5 hrl hp hwl0
    -- rows
    refine ⟨(by show 0 ≤ sizeLine; decide), fun R0 hR0 => ?_⟩
    obtain ⟨s8, g8⟩ := new2 (.lst []) hR0
    have wlR : wl ≠ R0 := fun z => by rw [z, hR0] at g7; cases g7
    have R0sa : R0 ≠ sa := fun z => st7.ne (by rw [← z]; exact hR0)
    have hyb : ∀ (i : Nat) (y : V) H9, Same H7 H9 → ys[i]? = some y → ∃ os pw, (allN d ws ws.length)[i]? = some os ∧ y = .ref pw ∧ WeaT H9 pw (wayR d os ws.length) := fun i y H9 e hy => by
      obtain ⟨W, hWi, hW⟩ := paired_get hW7 hy
      rw [List.getElem?_map] at hWi
      obtain ⟨os, hos, rfl⟩ := Option.map_eq_some_iff.mp hWi
      obtain ⟨pw, rfl, hWt⟩ := hW.same e
      exact ⟨os, pw, hos, rfl, hWt⟩
    generalize upd H7 R0 (.lst []) = H8 at s8 g8 ⊢
    refine ⟨_, rfl, wl, rfl, ⟨_, SqL.of (s8 _ _ g7)⟩, for_list (K := K) (a := wl) (xs := ys) (fun i σ H' => ∃ v8 v9 v10 v11 dsv, σ = [some (.ref a), some (.ref sa), some (.int (d : Int)), some (.ref l), some (.ref rl), some (.ref p), some (.ref wl), some (.ref R0), v8, v9, v10, v11, none, none, none, none, none, none] ∧ But R0 H8 H' ∧ H' R0 = some (.lst dsv) ∧ Paired (RowD d ws H') dsv ((allN d ws ws.length).take i)) ⟨_, _, _, _, [], rfl, But.refl _ _, g8, .nil⟩ (fun _ _ _ _ ⟨_, _, _, _, _, _, z, _⟩ => SqL.of (z _ _ (s8 _ _ g7) wlR)) ?_ ?_⟩
    · rintro i y σ H9 hy ⟨v8, v9, v10, v11, dsv, rfl, b9, g9, hD9⟩
      have e9 : Same H7 H9 := same_but (Same.refl H7) hR0 s8 b9
      obtain ⟨os, pw, hos, rfl, hWt9⟩ := hyb i y H9 e9 hy
      have hright := hwa os (List.mem_of_getElem? hos)
      obtain ⟨hWl, hfb⟩ := right_len hright
      refine gnE ?_
      refine fun D hD => ?_
      obtain ⟨s10, g10⟩ := new2 (.dT []) hD
      refine ⟨_, rfl, d, rfl, by omega, fun q zs H11 s11 hq g11 hS11 => ?_⟩
      have qD : q ≠ D := fun z => by rw [z, g10] at hq; cases hq
      have gD11 := s11 _ _ g10
      have hzl : zs.length = (strL d).length := Paired.length hS11
      have hsl := strL_len d (by omega)
      refine ⟨q, rfl, ⟨_, SqL.of g11⟩, for_list (K := K) (a := q) (xs := zs) (fun j σ H' => ∃ v10 v11, σ = [some (.ref a), some (.ref sa), some (.int (d : Int)), some (.ref l), some (.ref rl), some (.ref p), some (.ref wl), some (.ref R0), some (.ref pw), some (.ref D), v10, v11, none, none, none, none, none, none] ∧ But D H11 H' ∧ SetP H' D j (fun c => decide (c ∈ (strL d).take j) && tiB d ws os c)) ⟨_, _, rfl, But.refl _ _, [], gD11, Nat.zero_le _, fun c => by rw [valV_nil]; simp⟩ (fun _ _ _ _ ⟨_, _, _, z, _⟩ => SqL.of (z _ _ g11 qD)) ?_ ?_⟩
      · rintro j x σ H12 hx ⟨v10, v11, rfl, b12, hset⟩
        obtain ⟨c, hc, hr⟩ := paired_get hS11 hx
        obtain ⟨a', b', h1, h2', rfl⟩ := strL_mem (List.mem_of_getElem? hc)
        have hr12 : PairT H12 x ((a' : Int), (b' : Int)) := by
          obtain ⟨t, rfl, ht⟩ := hr
          exact ⟨t, rfl, b12 _ _ ht fun z => by rw [z, gD11] at ht; cases ht⟩
        have e12 : Same H9 H12 := same_but (Same.refl H9) hD (s10.trans s11) b12
        have e712 := e9.trans e12
        have hjl : j < (strL d).length := (List.getElem?_eq_some_iff.mp hc).1
        refine hr12.un rfl ?_
        refine ⟨_, rfl, _, rfl, _, rfl, _, rfl, l, pw, xs, ws, wayR d os ws.length, a', b', rfl, e712 _ _ hl7, Paired.mapP hP7 fun _ _ z => z.same e712, hWt9.same e12, by omega, by omega, by omega, fun rep hrep c hc => ?_, fun H13 s13 => ⟨_, rfl, ?_⟩⟩
        · obtain ⟨q, hq⟩ := List.getElem?_of_mem hrep
          have := (first_ok (Int.le_refl 1) hfb List.nodup_nil).2.1 q rep hq c hc
          rw [List.length_map] at this
          exact ⟨this.1, this.2.1⟩
        · obtain ⟨kvs, k1, k2, k3⟩ := hset.same s13
          have step := fun e => tk_step hc (tiB d ws os) e
          have et : tiB d ws os ((a' : Int), (b' : Int)) = isT ws (wayR d os ws.length) a' b' := rfl
          cases qt : isT ws (wayR d os ws.length) a' b' with
          | false =>
            refine ⟨_, _, rfl, b12.trans (But.of s13), kvs, k1, by omega, fun e => ?_⟩
            rw [k3 e]
            simp only [step e, et, qt, Bool.and_false, Bool.or_false]
          | true =>
            refine ⟨_, rfl, _, rfl, _, rfl, (by show 2 ≤ sizeLine; decide), fun t ht => ?_⟩
            obtain ⟨s14, g14⟩ := new2 (.tup [.int (a' : Int), .int (b' : Int)]) ht
            refine ⟨D, _, rfl, DPut.t (k := keyP ((a' : Int), (b' : Int))) (s14 _ _ k1) g14 (line_lt (by omega)), ?_⟩
            refine ⟨_, _, rfl, (b12.trans (But.of (s13.trans s14))).upd, _, upd_same, Nat.le_trans (setP_put k2 k3 _).1 (by omega), fun e => ?_⟩
            rw [(setP_put k2 k3 _).2 e]
            simp only [step e, et, qt, Bool.and_true]
      · rintro σ H12 ⟨v10, v11, rfl, b12, hset⟩
        rw [hzl, List.take_length] at hset
        have e12 : Same H9 H12 := same_but (Same.refl H9) hD (s10.trans s11) b12
        have g12 := e12 _ _ g9
        have hdl : dsv.length = ((allN d ws ws.length).take i).length := Paired.length hD9
        refine ⟨_, rfl, .inl ⟨rfl, _, SqL.of g12⟩, _, rfl, R0, dsv, _, rfl, rfl, g12, line_lt (by rw [hdl, List.length_take]; omega), ?_⟩
        refine ⟨_, _, _, _, dsv ++ [.ref D], rfl, (b9.trans (But.of e12)).upd, upd_same, ?_⟩
        rw [take_get hos]
        exact Paired.snoc (Paired.mapP hD9 fun _ _ z => (z.same e12).mut g12) (RowD.mut g12 ⟨D, _, rfl, hset⟩)
    · rintro σ H9 ⟨v8, v9, v10, v11, dsv, rfl, b9, g9, hD9⟩
      rw [hyl, List.take_length] at hD9
      have e79 : Same H7 H9 := same_but (Same.refl H7) hR0 s8 b9
      have hA9 := hA7.same e79
      have hl9 := e79 _ _ hl7
      have hP9 := Paired.mapP hP7 fun _ _ z => z.same e79
      have st9 := st7.same e79
      have hwl9 := e79 _ _ g7
      have hW9 := Paired.mapP hW7 fun _ _ z => z.same e79
      have e9 := e7.trans e79
      have hdl : dsv.length = (allN d ws ws.length).length := Paired.length hD9
      clear e79 b9 hA7 hl7 hP7 st7 g7 hW7 e7 hyb s8 g8
      -- lots
      refine ⟨_, rfl, _, rfl, d, sa, rfl, st9, by omega, by omega, fun lp ls H10 b10 st10 g10 lpsa hlz hLot => ?_⟩
      obtain ⟨x0, y0, z0, hst9⟩ := id st9
      have hA10 := hA9.but st9 b10
      have hl10 := b10 _ _ hl9 lsa
      have hP10 := Paired.mapP hP9 fun _ _ z => z.but hst9 b10
      have hwl10 := b10 _ _ hwl9 wsa
      have hW10 := Paired.mapP hW9 fun _ _ z => z.butS st9 b10
      have gR10 := b10 _ _ g9 R0sa
      have hD10 := Paired.mapP hD9 fun _ _ z => z.butS st9 b10
      have e10 : Same H H10 := same_but (Same.refl H) hsa e9 b10
      clear hA9 hl9 hP9 st9 hwl9 hW9 g9 hD9 e9 hst9 b10
      refine ⟨lp, rfl, ⟨_, SqL.of g10⟩, for_list (K := K) (a := lp) (xs := ls) (fun i σ H' => ∃ v12, σ = [some (.ref a), some (.ref sa), some (.int (d : Int)), some (.ref l), some (.ref rl), some (.ref p), some (.ref wl), some (.ref R0), v8, v9, v10, v11, v12, none, none, none, none, none] ∧ Same H10 H') ⟨_, rfl, Same.refl _⟩ (fun _ _ _ _ ⟨_, _, z⟩ => SqL.of (z _ _ g10)) ?_ ?_⟩
      · rintro i y σ H11 hy ⟨v12, rfl, s11⟩
        obtain ⟨lo, ss, lot, rfl, glo, hPl, hl14, hmem⟩ := hLot y (List.mem_of_getElem? hy)
        refine gnE ?_
        exact ⟨_, rfl, _, rfl, _, rfl, _, rfl, _, rfl, d, p, l, R0, lo, xs, dsv, ss, ws, lot, rfl, hA10.same s11, s11 _ _ hl10, Paired.mapP hP10 fun _ _ z => z.same s11, s11 _ _ gR10, Paired.mapP hD10 fun _ _ z => z.same s11, s11 _ _ glo, Paired.mapP hPl fun _ _ z => z.same s11, hl14, hmem, by omega, by omega, hso, by omega, fun H12 s12 => ⟨_, rfl, _, rfl, s11.trans s12⟩⟩
      · rintro σ H11 ⟨v12, rfl, s11⟩
        -- table, keys
        have hl11 := s11 _ _ hl10
        have hP11 := Paired.mapP hP10 fun _ _ z => z.same s11
        refine ⟨_, rfl, _, rfl, d, l, xs, ws, rfl, hl11, hP11, by omega, by omega, fun tb H12 htb s12 g12 => ?_⟩
        refine ⟨_, rfl, _, rfl, d, tb, tabS ws, rfl, g12, by omega, fun kl ks H13 hkl s13 g13 hK13 => ?_⟩
        have s1013 := s11.trans (s12.trans s13)
        have hA13 := hA10.same s1013
        have hl13 := s1013 _ _ hl10
        have hP13 := Paired.mapP hP10 fun _ _ z => z.same s1013
        have hwl13 := s1013 _ _ hwl10
        have hW13 := Paired.mapP hW10 fun _ _ z => z.same s1013
        have st13 := st10.same s1013
        have gt13 := s13 _ _ g12
        have e13 := e10.trans s1013
        clear hA10 hl10 hP10 hwl10 hW10 st10 e10 s1013 s11 s12 s13 hl11 hP11 g12 hLot g10 gR10 hD10
        obtain ⟨x0, y0, z0, hst13⟩ := id st13
        have hWb : ∀ W ∈ (allN d ws ws.length).map (fun os => wayR d os ws.length), wrongOf (ws.map canR) d W = -1 ∧ W.length = d ∧ total W ≤ 30 := fun W hW => by
          obtain ⟨os, ho, rfl⟩ := List.mem_map.mp hW
          have h := hwa os ho
          refine ⟨h, (right_len h).1, Nat.le_trans total_way ?_⟩
          exact Nat.mul_le_mul d2 hw5
        have eT : keysL (tabS ws) d = keysL (tabR (ws.map canR)) d := by rw [tabS_R]
        have hkm : ∀ c ∈ keysL (tabS ws) d, ∃ a b : Nat, a < b ∧ b ≤ d ∧ c = ((a : Int), (b : Int)) := fun c hc => by
          obtain ⟨a, b, hab, hb, e⟩ := keysL_mem hc
          exact ⟨a, b, hab, hb, e⟩
        refine ⟨_, rfl, by decide, by decide, for_upto (lo := 0) (L := 5) rfl (fun i σ H' => ∃ v15 v16 v17, σ = [some (.ref a), some (.ref sa), some (.int (d : Int)), some (.ref l), some (.ref rl), some (.ref p), some (.ref wl), some (.ref R0), v8, v9, v10, v11, v12, some (.ref tb), some (.ref kl), v15, v16, v17] ∧ But sa H13 H' ∧ Stk H' sa) ⟨_, _, _, rfl, But.refl _ _, st13⟩ ?_ ?_⟩
        · rintro i σ H14 hi ⟨v15, v16, v17, rfl, b14, st14⟩
          refine gnE ?_
          have hwl14 := b14 _ _ hwl13 wsa
          have hW14 := Paired.mapP hW13 fun _ _ z => z.butS st13 b14
          refine ⟨_, rfl, _, rfl, sa, wl, ys, rfl, SqL.of hwl14, by omega, wsa, st14, fun m H15 zs hm b15 st15 g15 hmem hzl => ?_⟩
          refine ⟨_, rfl, _, rfl, m, zs, rfl, SqL.of g15, fun c hc => ?_⟩
          have ecut : cutV zs none (some (0 + (i : Int))) = zs.take i := cut_take zs (k := i) (by omega)
          obtain ⟨s16, g16⟩ : Same H15 (upd H15 c (.lst (cutV zs none (some (0 + (i : Int)))))) ∧ upd H15 c (.lst (cutV zs none (some (0 + (i : Int))))) c = some (.lst (zs.take i)) := ⟨same_new hc, by rw [upd_same, ecut]⟩
          have b1316 := b14.trans (b15.trans (But.of s16))
          have st16 := st15.same s16
          have hW16 : Paired (WeaV _) ys _ := Paired.mapP hW13 fun _ _ z => z.butS st13 b1316
          obtain ⟨Zs, hZ16, hZm⟩ := weas_sub hW16 (zs := zs.take i) fun z hz => hmem z (List.mem_of_mem_take hz)
          have hZl : Zs.length ≤ 5 := by
            rw [← Paired.length hZ16, List.length_take]
            omega
          generalize upd H15 c (.lst (cutV zs none (some (0 + (i : Int))))) = H16 at s16 g16 b1316 st16 hW16 hZ16 ⊢
          have hZb : ∀ W ∈ Zs, wrongOf (ws.map canR) d W = -1 ∧ W.length = d ∧ total W ≤ 30 := fun W hW => hWb W (hZm W hW)
          -- deep
          refine ⟨_, rfl, .ref c, Zs, rfl, ⟨c, zs.take i, rfl, g16, paired_both hZ16 (fun _ W hW z => z.seqOf (by have := (hZb W hW).2.1; omega) (by have := (hZb W hW).2.2; omega)), by omega⟩, fun v' H17 s17 h17 => ?_⟩
          obtain ⟨g, gys, rfl, hgn, gg17, hG17⟩ := weas_of h17
          have b1317 := b1316.trans (But.of s17)
          have hA17 := hA13.but st13 b1317
          have und : undL (ws.map canR) d Zs = undS ws (keysL (tabS ws) d) Zs := by
            rw [eT]
            exact und_same hg fun W hW => (hZb W hW).1
          refine ⟨_, rfl, _, rfl, d, p, g, ws.map canR, gys, Zs, rfl, hA17, gg17, hG17, by omega, hwl, hg, fun W hW => by have := (hZb W hW).2; omega, fun z => absurd z (by omega), fun _ m hm => (no_bad hm).elim, fun _ _ m W hW hbadW => absurd (hZb W (List.mem_of_getElem? hW)).1 hbadW, fun _ _ hall r v2 H18 s18 g18 hv2 => ?_⟩
          have b1318 := b1317.trans (But.of s18)
          have lkl : kl ≠ sa := rep_ne st13 g13 hK13
          have s1618 := s17.trans s18
          refine ⟨_, rfl, _, rfl, _, rfl, d, l, kl, c, xs, ks, zs.take i, ws, keysL (tabS ws) d, Zs, rfl, b1318 _ _ hl13 lsa, Paired.mapP hP13 fun _ _ z => z.but hst13 b1318, b1318 _ _ g13 lkl, Paired.mapP hK13 fun _ _ z => z.but hst13 b1318, s1618 _ _ g16, Paired.mapP hZ16 fun _ _ z => z.same s1618, by omega, by omega, hkm, fun W hW => (hZb W hW).1, fun v H19 s19 hv => ?_⟩
          refine ⟨(by show 2 ≤ sizeLine; decide), fun t ht => ?_⟩
          obtain ⟨s20, g20⟩ := new2 (.tup [.str "told", v]) ht
          generalize upd H19 t (.tup [.str "told", v]) = H20 at s20 g20 ⊢
          have s1820 := s19.trans s20
          have s1720 := s18.trans s1820
          refine ⟨_, _, rfl, mtN_two (s1820 _ _ g18) g20 ?_, fun H21 s21 => ⟨_, rfl, ?_⟩⟩
          · rw [und] at hv2
            rcases hv with ⟨e1, rfl⟩ | ⟨c1, r1, e1, p1⟩
            · rcases hv2 with ⟨e2, rfl⟩ | ⟨c2, r2, e2, p2⟩
              · exact .inl (.inl ⟨rfl, rfl⟩)
              · rw [e1] at e2
                cases e2
            · rcases hv2 with ⟨e2, rfl⟩ | ⟨c2, r2, e2, p2⟩
              · rw [e1] at e2
                cases e2
              · rw [e1] at e2
                cases e2
                exact mtN_up (mtN_pair (p2.same s1820) (p1.same s20))
          · have s1721 := s1720.trans s21
            have s1621 := s17.trans s1721
            refine ⟨_, rfl, _, rfl, ne_weas (s1721 _ _ gg17) (s1621 _ _ g16) (Paired.mapP hG17 fun _ _ z => z.same s1721) (Paired.mapP hZ16 fun _ _ z => z.same s1621) ?_⟩
            exact ⟨_, rfl, _, _, _, rfl, b1316.trans (But.of s1621), st16.same s1621⟩
        · rintro σ H14 ⟨v15, v16, v17, rfl, b14, st14⟩
          have hA14 := hA13.but st13 b14
          have hl14 := b14 _ _ hl13 lsa
          have hP14 := Paired.mapP hP13 fun _ _ z => z.but hst13 b14
          have hwl14 := b14 _ _ hwl13 wsa
          have hW14 := Paired.mapP hW13 fun _ _ z => z.butS st13 b14
          have gt14 := b14 _ _ gt13 (ne_stk st13 gt13 fun _ z => by cases z)
          have e14 : Same H H14 := same_but (Same.refl H) hsa e13 b14
          clear hA13 hl13 hP13 hwl13 hW13 gt13 e13 b14 hst13 st13 hK13 g13
          -- slips
          refine ⟨_, rfl, d, rfl, by omega, fun q zs H15 s15 hq g15 hS15 => ⟨q, rfl, ⟨_, SqL.of g15⟩, for_list (K := K) (a := q) (xs := zs) (fun j σ H' => ∃ v10 v11, σ = [some (.ref a), some (.ref sa), some (.int (d : Int)), some (.ref l), some (.ref rl), some (.ref p), some (.ref wl), some (.ref R0), v8, v9, v10, v11, v12, some (.ref tb), some (.ref kl), v15, v16, v17] ∧ Same H15 H') ⟨_, _, rfl, Same.refl _⟩ (fun _ _ _ _ ⟨_, _, _, z⟩ => SqL.of (z _ _ g15)) ?_ ?_⟩⟩
          · rintro j x σ H16 hx ⟨w10, w11, rfl, s16⟩
            obtain ⟨c, hc, hr⟩ := paired_get hS15 hx
            have hcm := List.mem_of_getElem? hc
            obtain ⟨a', b', h1, h2', rfl⟩ := strL_mem hcm
            have e1416 := s15.trans s16
            refine (hr.same s16).un rfl ?_
            refine ⟨_, rfl, _, rfl, _, rfl, (by show 2 ≤ sizeLine; decide), fun t ht => ?_⟩
            obtain ⟨s17, g17⟩ := new2 (.tup [.int (a' : Int), .int (b' : Int)]) ht
            have e1417 := e1416.trans s17
            refine ⟨d, p, .ref t, ws.map canR, ((a' : Int), (b' : Int)), rfl, hA14.same e1417, ⟨t, rfl, g17⟩, by omega, by omega, hwl, hg, fun m hm => (no_bad hm).elim, fun _ hbad => absurd (strL_ok hcm) hbad, fun _ a1 b1 e hab hb n hn hn40 r l1 xs1 H18 s18 g18 g18' hP18 => ?_⟩
            obtain ⟨rfl, rfl⟩ : a' = a1 ∧ b' = b1 := by
              have q1 : (a' : Int) = a1 := congrArg Prod.fst e
              have q2 : (b' : Int) = b1 := congrArg Prod.snd e
              omega
            have hn' : tabS ws a' b' = (n : Int) := by rw [tabS_R]; exact hn
            refine ⟨_, rfl, _, _, rfl, rfl, _, rfl, (by show 2 ≤ sizeLine; decide), fun t2 ht2 => ⟨(by show 1 ≤ sizeLine; decide), fun l2 hl2 => ?_⟩⟩
            obtain ⟨s19, g19⟩ := new2 (.tup [.int ((a' : Int) + 1), .int (b' : Int)]) ht2
            obtain ⟨s20, g20⟩ := new2 (.lst [V.ref t2]) hl2
            refine ⟨_, rfl, _, rfl, _, rfl, (by show 2 ≤ sizeLine; decide), fun t3 ht3 => ?_⟩
            obtain ⟨s21, g21⟩ := new2 (.tup [.int (a' : Int), .int (b' : Int)]) ht3
            have s1821 := s19.trans (s20.trans s21)
            have s1721 := s18.trans s1821
            have dg := DGet.t (k := key2 a' b') ((e1417.trans s1721) _ _ gt14) (by rw [g21]; rfl)
            rw [tabM_val (by omega) h2', hn'] at dg
            have g1921 := (s20.trans s21) _ _ g19
            have g2021 := s21 _ _ g20
            generalize upd _ t3 (.tup [.int (a' : Int), .int (b' : Int)]) = H21 at s21 g21 s1821 s1721 dg g1921 g2021 ⊢
            refine ⟨tb, _, rfl, dg, _, _, rfl, rfl, ?_⟩
            refine ⟨l2, (n : Int) + 1, [V.ref t2], rfl, rfl, g2021, by omega, by omega, (by show 1 * ((n : Int) + 1).toNat ≤ sizeLine; exact line_of (by omega)), fun m2 h3 => ⟨(by show 2 ≤ sizeLine; decide), fun du hdu => ?_⟩⟩
            obtain ⟨s22, g22⟩ := new2 (.lst (List.replicate ((n : Int) + 1).toNat [V.ref t2]).flatten) h3
            obtain ⟨s23, g23⟩ := new2 (.tup [.str "told", .ref m2]) hdu
            have hP23 := paired_rep (show PairT _ (V.ref t2) ((a' : Int) + 1, (b' : Int)) from ⟨t2, rfl, s23 _ _ (s22 _ _ g1921)⟩) ((n : Int) + 1).toNat
            rw [show ((n : Int) + 1).toNat = n + 1 by omega] at hP23 g22 s22 s23 g23 ⊢
            have s1823 := s1821.trans (s22.trans s23)
            have lN : (List.replicate (n + 1) ((a' : Int) + 1, (b' : Int))).length ≤ 1000 := by rw [List.length_replicate]; omega
            exact ⟨_, _, rfl, mtN_two (s1823 _ _ g18) g23 (mtN_list (k := 1) lN (s1823 _ _ g18') (s23 _ _ g22) (Paired.mapP hP18 fun _ _ z => z.same s1823) hP23 fun _ _ _ z1 z2 => mtN_pair z1 z2), fun H24 s24 => ⟨_, rfl, _, _, rfl, s16.trans (s17.trans (s18.trans (s1823.trans s24)))⟩⟩
          · rintro σ H16 ⟨w10, w11, rfl, s16⟩
            have e1416 := s15.trans s16
            have hA16 := hA14.same e1416
            have hwl16 := e1416 _ _ hwl14
            have hW16 := Paired.mapP hW14 fun _ _ z => z.same e1416
            -- the first undecided among all
            have u0 : undL (ws.map canR) d ((allN d ws ws.length).map fun os => wayR d os ws.length) = [] := by
              rw [und_same hg fun W hW => (hWb W hW).1, ← eT]
              exact und_none hcan _ hkm
            refine ⟨_, rfl, _, rfl, d, p, wl, ws.map canR, ys, _, rfl, hA16, hwl16, hW16, by omega, hwl, hg, fun W hW => by have := (hWb W hW).2; omega, fun z => absurd z (by rw [List.length_map]; omega), fun _ m hm => (no_bad hm).elim, fun _ _ m W hW hbadW _ => absurd (hWb W (List.mem_of_getElem? hW)).1 hbadW, fun _ _ hall H17 s17 => ⟨fun _ => ?_, fun x c r hu _ => by rw [u0] at hu; cases hu⟩⟩
            refine ⟨_, _, rfl, .inl (.inl ⟨rfl, rfl⟩), fun H18 s18 => ⟨_, rfl, ?_⟩⟩
            have e1418 := e1416.trans (s17.trans s18)
            -- the errors
            refine ⟨_, rfl, a, ns, _, rfl, (e14.trans e1418).seq hS, hl, by decide, by decide, fun sb H19 hsb s19 st19 => ?_⟩
            have e19 := e1418.trans s19
            obtain ⟨os, rr, eo⟩ := ways_pos (T := d) hcan (by omega)
            have hW19 : Paired (WeaV H19) ys ((allN d ws ws.length).map fun os => wayR d os ws.length) := Paired.mapP hW14 fun _ _ z => z.same e19
            have hy0 : ∃ a0, ys[0]? = some (V.ref a0) ∧ WeaT H19 a0 (wayR d os ws.length) := by
              rw [eo] at hW19
              cases hW19 with
              | cons q _ =>
                obtain ⟨a0, rfl, h⟩ := q
                exact ⟨a0, rfl, h⟩
            obtain ⟨a0, hy0, hW0⟩ := hy0
            have h0 := hWb (wayR d os ws.length) (List.mem_map.mpr ⟨os, by rw [eo]; exact List.mem_cons_self, rfl⟩)
            have wlsb : wl ≠ sb := fun z => by
              have := e1418 _ _ hwl14
              rw [z, hsb] at this
              cases this
            exact ⟨_, rfl, _, rfl, _, rfl, _, rfl, d, sb, p, l, wl, a0, xs, ys, ws, wayR d os ws.length, rfl, st19, hA14.same e19, e19 _ _ hl14, Paired.mapP hP14 fun _ _ z => z.same e19, e19 _ _ hwl14, wlsb, hy0, hW0, h0.1, by have := h0.2.2; omega, hw1, by omega, by omega, by omega, hso, k⟩
end
end K27
end
section
set_option maxRecDepth 100000
set_option maxHeartbeats 0
namespace K27
open PySem PySem.Spec PyProof.Rows L2
theorem law_at {w : World} {h : Heap} {mg : Str → Option Value} {fa : Addr} (Y : hk.says w h) (G : h.Ns mainGlobals mg) (hmg : mg ("law" : Str) = some (.ref fa)) :
    ∃ K : PySem.W.Frag, K.In h ∧ LamX.LawAtG PySem.Challenge.rw_seenenough_k27_stretches_tight_together w K 12 63 "script" mg fa h := by
  obtain ⟨K, KX, c⟩ := Y
  have T : Txt w K mg := ⟨h, KX, G, c⟩
  obtain ⟨f, fd, F, g⟩ := f_law T
  have e := hmg.symm.trans g
  cases e
  have B := F.bindsA (ps := ["script"]) (fun _ _ _ _ _ _ us hl => match us, hl with | [_], _ => rfl)
  refine ⟨K, KX, fd, tf.map (He.cT K), spLaw K, fun p hp => ?_, fun p hp => ?_, fun p hp => ?_, fun s u => B s [u] rfl, fun H a ns hl hH hS => ⟨a, ns, rfl, hS, hl, fun _ => rfl⟩, fun base _ _ TB => fn_law T F⟩
  · obtain ⟨d, hd, rfl⟩ := List.mem_map.mp hp
    exact c.empty d hd
  · obtain ⟨d, hd, rfl⟩ := List.mem_map.mp hp
    exact c.out d hd
  · obtain ⟨d, hd, rfl⟩ := List.mem_map.mp hp
    exact PySem.W.codeHd_of_K KX (c.hd d hd)
end K27
open PySem PySem.W PySem.Calls PyProof.Rows
theorem PySem.Challenge.cw_seenenough_k27_stretches_tight_together_holds : PySem.Challenge.rw_seenenough_k27_stretches_tight_together.Holds := by
  w_on; o_law
  refine HandSHeadRun.head_any (r := OpenLaw.row PySem.Challenge.rw_seenenough_k27_stretches_tight_together) (q := view (OpenLaw.row PySem.Challenge.rw_seenenough_k27_stretches_tight_together).prog [79]) (H := K27.hk) (ob := K27.ob) (M := 20000) (loose := K27.loose1 ++ K27.loose2) (d := HandSHeadRun.topDef (OpenLaw.row PySem.Challenge.rw_seenenough_k27_stretches_tight_together).prog 79) (kwd := []) K27.ob_eq
    (by kernel_rfl) (fun s => by kernel_rfl) K27.run (by kernel_rfl) (by kernel_rfl) (by kernel_rfl) (by rfl) (by first | assumption | decide +kernel) (by decide +kernel) ⟨rfl, rfl, rfl, rfl, rfl, by decide +kernel⟩ ?hw ?hc
  case hw => w_witness2
  case hc =>
    refine LamX.walk_ofG (l := PySem.Challenge.rw_seenenough_k27_stretches_tight_together) (n := 63) (k := 12) (x := "script") rfl (by decide) (by kernel_rfl) ⟨by decide, by decide, by decide⟩ rfl ?F
    intro w mg fa h Y G hmg0
    have hmg : mg ("law" : PySem.Str) = some (.ref fa) := by
      have e : (HandSHeadRun.topDef (OpenLaw.row PySem.Challenge.rw_seenenough_k27_stretches_tight_together).prog 79).name = ("law" : PySem.Str) := by kernel_rfl
      rw [← e]
      exact hmg0
    exact K27.law_at Y G hmg
end
