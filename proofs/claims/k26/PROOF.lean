import PyProof.Rows.All
import Wide.All
import OpenK.AllK
import Wide.FinOn
import KE.GoesEnumKw
import KE.KStateDown
import HandS.ForMost
import HandS.Exc
import HandS.ExcInit
import HandS.ExcIs
import HandS.ExcField
import HandS.TryOnly
import HandS.TryMany
import HandS.Lambda
import HandS.HotCalls
import HandS.IsInst
import HandS.SortKw
import HandS.WordsExc
import HandS.Wide
import HandS.Defaults
import HandS.HeadHook4
import HandS.HeadWalk
import HandS.RaiseMore
import HandS.ClsMeth
import KE.KExcIs
import HandS.Head0
import HandS.Head1
import HandS.Head2
import HandS.Steps
import HandS.Conv
import HandS.EndTab
import HandS.DictComp
import HandS.Strs
import HandS.TupSets
import HandS.Small
import PySem.Challenge.RW_seenenough_k26_key_and_tight_stretches
set_option Elab.async false
set_option linter.all false
section
set_option maxRecDepth 100000
set_option maxHeartbeats 4000000
namespace L2
open PySem PySem.Spec PyProof.Rows
/-! ### x[i] op= e over a list -/
theorem get_list {X : Cx} : PGet X (rIxL X.K) := by
  intro pins s σ H o i ov iv Q I rx ry h
  obtain ⟨p, xs, k, z, rfl, rfl, hq, he, q⟩ := h
  cases rx
  obtain ⟨t, rfl⟩ := ry
  obtain ⟨its, r, pl, hz⟩ := I.list hq
  obtain ⟨j, h1, h2, h3, h4, h5⟩ := atI_get he
  obtain ⟨w, ew, rw'⟩ := r.get h2
  have hl := r.length
  have hn := line63
  have fin : EP X pins σ Q w s := ⟨z, H, I, rw', q⟩
  by_cases h0 : 0 ≤ k
  · have hj : k.toNat = j := by
      rw [seqIndex_of h0 h5] at h1
      exact Option.some.inj h1
    exact wpAny_getItem_list pl.isList h0 (by omega) (by rw [hj]; simpa using ew) fin
  · have hj : (k + (its.toArray.size : Int)).toNat = j := by
      rw [seqIndex_neg (by omega) h4] at h1
      rw [List.size_toArray, ← hl]
      exact Option.some.inj h1
    exact wpAny_getItem_list_neg pl.isList (by omega) (by rw [List.size_toArray] <;> omega) (by omega) (by rw [hj]; simpa using ew) fin
/-! ### a, b = a list or a tuple -/
def gSeq (K : PySem.W.Frag) (n : Nat) (t : TGs) : TG := fun v σ H Q => gTup K n t v σ H Q ∨ gLst K n t v σ H Q
theorem pg_seq {X : Cx} {pos : Pos} {es : List Expr} {k : Nat} {t : TGs} {n : Nat} (hc : X.calm = true) (h : PGs X es t)
    (hn : (assignEach es X.env).length = n := by rfl) (hst : (assignEach es X.env).findIdx? (·.1) = none := by rfl) : PG X (.Tuple es k pos) (gSeq X.K n t) := by
  refine ⟨fun pins s σ H v u Q I r hw => ?_⟩
  rcases hw with hw | hw
  · exact (pg_tup hc h hn hst).run pins s σ H v u Q I r hw
  · exact (pg_lst hc h hn hst).run pins s σ H v u Q I r hw
/-! ### enumerate(list, start=k) -/
def IteS (K : PySem.W.Frag) (a : Addr) (k : Int) : It :=
  ⟨fun i H => ∃ (xs : List V) (x : V), SqL K H a xs ∧ xs[i]? = some x, fun i H v H' => ∃ T x, v = .ref T ∧ H T = none ∧ H' = upd H T (.tup [.int (k + (i : Nat)), x]) ∧ ∀ xs, SqL K H a xs → xs[i]? = some x, fun i H => ∃ xs : List V, SqL K H a xs ∧ xs.length ≤ i⟩
theorem turn_enumS {P : Program} {w : World} {K : PySem.W.Frag} {elts : List Expr} {kk : Nat} {tpos : Pos} (a e it : Addr) (k : Int) :
    Turn P w K (.Tuple elts kk tpos) (IteS K a k) [e, it] e (fun i h => (∃ old, IsEnum h e it (k + ((i : Nat) : Int)) old) ∧ h.IsListIter it a i ∧ e ≠ it) where
  mem := by simp
  obj := fun i h st b hb => by
    obtain ⟨⟨old, he⟩, ⟨o, ho, hc, hd⟩, _⟩ := st
    have e' : b = e ∨ b = it := by simpa using hb
    rcases e' with z | z
    · rw [z]; exact ⟨_, he, fun v q => nomatch q⟩
    · rw [z]; exact ⟨o, ho, fun v q => by rw [hd] at q; cases q⟩
  keep := fun i h h' st k => let ⟨⟨old, he⟩, hi, hne⟩ := st; ⟨⟨old, k e (by simp) _ he⟩, hi.at fun o q => k it (by simp) o q, hne⟩
  item := by
    intro X hP hw hK hc i pins s σ H E I hf st hg
    subst hP hw hK
    obtain ⟨⟨old, he⟩, hit, hne⟩ := st
    obtain ⟨xs, x, hq, hx⟩ := hg
    obtain ⟨its, rv, p, hz⟩ := I.list hq
    obtain ⟨u, hu, ru⟩ := rv.get hx
    have hel : e < s.heap.objs.size := Heap.lt_size he
    have hil : it < s.heap.objs.size := by obtain ⟨_, q, _⟩ := hit; exact Heap.lt_size q
    have hal : a ≠ it := fun z => by
      obtain ⟨o1, e1, c1, _⟩ := id hit
      obtain ⟨o2, e2, c2, _⟩ := id p.isList
      rw [z, e1] at e2
      have eo := Option.some.inj e2
      rw [eo, c2] at c1
      exact absurd (Value.type.inj c1) (by decide)
    have hea : e ∉ [it, a] := fun z => by
      rcases List.mem_cons.mp z with z | z
      · exact hne z
      · have z' := List.mem_singleton.mp z
        obtain ⟨o2, e2, c2, _⟩ := id p.isList
        have he' : s.heap.get? e = some _ := he
        rw [z', e2] at he'
        rw [Option.some.inj he'] at c2
        exact absurd (Value.type.inj c2) (by decide)
    refine wpAny_pyNext_enum_itemC (Draws.list (A := X.A.in1) (I.ok.hd hc) it a hal its.toArray) he ⟨hit, p.isList⟩ (by have := (List.getElem?_eq_some_iff.mp hu).1; simpa using this) hne hea fun u' h' tk hP ho hst' hT hsz hk => ?_
    obtain rfl : u' = u := by
      have hP' : its.toArray[i]? = some u' := hP
      rw [List.getElem?_toArray, hu] at hP'
      exact (Option.some.inj hP').symm
    obtain ⟨hit', _⟩ := hst'
    refine ⟨_, rfl, wpAny_letOwnedTupleGo_enum (s := { s with heap := h', toks := tk + 1 }) ho fun h'' he' sb => ?_⟩
    have hT2 : h''.get? s.heap.objs.size = some { cls := .type "tuple", data := .seq #[.int (k + i) tk, u'] } := (sb.2 _ (Nat.ne_of_gt hel)).trans hT
    have new : ObjOk X.prog X.w (upd H s.heap.objs.size (.tup [.int (k + (i : Nat)), x])) h'' s.heap.objs.size (.tup [.int (k + (i : Nat)), x]) :=
      ⟨by show 2 ≤ sizeLine; decide, [.int (k + i) tk, u'], .cons ⟨_, rfl⟩ (.cons ru .nil), ⟨_, hT2, rfl, _, rfl⟩⟩
    have I1 : Inv X pins σ (upd H s.heap.objs.size (.tup [.int (k + (i : Nat)), x])) { s with heap := h'', toks := tk + 1 } :=
      I.turnedNew (ch := [e, it]) (fun b ob hb q => (sb.2 b (fun z => hb (by simp [z]))).trans (hk b ob (fun z => hb (by simp [z])) (fun z => hb (by simp [z])) q)) hf (Nat.le_refl _) new
    refine ⟨.ref s.heap.objs.size, _, I1, rfl, ⟨_, x, rfl, I.hok.fresh (Nat.le_refl _), rfl, fun ys hy => by rw [I.list_inj hy hq]; exact hx⟩, ⟨⟨u', ?_⟩, hit'.at fun o q => (sb.2 it (Ne.symm hne)).trans q, hne⟩, fun b hb => ?_⟩
    · have e1 : k + ((i + 1 : Nat) : Int) = (k + (i : Int)) + 1 := by omega
      rw [e1]; exact he'
    · have hb' : b < s.heap.objs.size := by
        have e' : b = e ∨ b = it := by simpa using hb
        rcases e' with z | z
        · rw [z]; exact hel
        · rw [z]; exact hil
      rw [upd_ne (Nat.ne_of_lt hb')]
      exact (hf b hb).1
  done := by
    intro X hP hw hK hc i pins s σ H E I hf st hg
    subst hP hw hK
    obtain ⟨⟨old, he⟩, hit, hne⟩ := st
    obtain ⟨xs, hq, hx⟩ := hg
    obtain ⟨its, rv, p, hz⟩ := I.list hq
    obtain ⟨f0, f1, f2, f3, f4, f5⟩ := hf it (by simp)
    have hl := rv.length
    have hT : s.TypeIs (.ref e) "enumerate" := ⟨_, he, rfl⟩
    unfold pyNext
    refine wpAny_bind (wpAny_attempt (wpAny_callSpecial?_slot (name := Str.ofString "__next__") hT F.slot_enumerate_next
      (wpAny_call_entry F.slot_enumerate_next hT F.entry_enumerate_next ?_ (F.args_enumerate_next_1 _))))
    show wpAny _ _ (field (.ref e) 2 >>= _) _ _ _
    refine wpAny_bind (wpAny_field he rfl (x := .ref it) rfl ?_)
    refine wpAny_bind (wpAny_nextOf_list_end (show X.A.in1.handled = none from I.ok.hd hc) hit p.isList (by simp; omega) fun h' x eb hx' => ?_)
    obtain ⟨o, ho, hc'⟩ := hx'
    refine wpAny_bind (wpAny_isInstance (T := "StopIteration") (b := true) ⟨o, ho, hc'⟩ isSubtype_stop ?_)
    exact wpAny_pure ⟨rfl, I.turned (t' := s.toks) (fun b o hb q => eb b o hb q) f0 f1 f3 f4 f5⟩
  self := fun A i s Q E st h => let ⟨⟨_, he⟩, _⟩ := st; wpAny_pyIter_enum he h
def iEnumS (K : PySem.W.Frag) (ta tk : TA) : TI := fun σ H R => ta σ H fun vs H1 => tk σ H1 fun zs H2 => ∃ a xs k, vs = [.ref a] ∧ zs = [.int k] ∧ -(2 ^ 63) ≤ k ∧ k < 2 ^ 63 ∧ SqL K H2 a xs ∧ R (IteS K a k) H2
theorem callWith_typeK {M : Model} {A : Around} {E : Value → Shared → Prop} {s : Shared} {env : Env} {pos : Pos} {T : String} {e : Expr} {rest : List Expr} {kws : List Keyword} {Q : Value → Shared → Prop}
    (h : wpAny M A (spliced (backTo pos (starEach (e :: rest) env))) (fun vs s₁ => wpAny M A (evalAll ((backToKw pos (keywordEach kws env)).map (·.2)))
      (fun kvs s₂ => wpAny M A (call (.type T) vs (((backToKw pos (keywordEach kws env)).filterMap (·.1)).zip kvs)) Q E s₂) E s₁) E s)
    (he : backTo pos (starEach (e :: rest) env) = (false, eval e env) :: backTo pos (starEach rest env) := by rfl)
    (hplain : (backTo pos (starEach (e :: rest) env)).any (·.1) = false := by rfl)
    (hall : (backToKw pos (keywordEach kws env)).all (·.1.isSome) = true := by rfl)
    (hkw : (backToKw pos (keywordEach kws env)).any (·.1.isNone) = false := by rfl) :
    wpAny M A (callWith pos (.type T) [] (backTo pos (starEach (e :: rest) env)) (backToKw pos (keywordEach kws env))) Q E s := by
  have h2 : wpAny M A (evalArgs (.type T) true (backTo pos (starEach (e :: rest) env)) (backToKw pos (keywordEach kws env))) (fun a s₁ => wpAny M A (call (.type T) ([] ++ a.pos) a.kw) Q E s₁) E s := by
    rw [he] at h ⊢
    exact PyProof.Rows.evalArgs_kwB hall h
  unfold callWith
  refine wpAny_bind (wpAny_holding (wpAny_mono h2 (fun a s₁ h₁ => wpAny_bind (wpAny_standAt ?_)) fun _ _ x => x))
  simp only [hplain, hkw, Bool.or_false]
  refine wpAny_bind (wpAny_pure ?_)
  exact wpAny_bind (wpAny_mono h₁ (fun r s₂ hr => wpAny_bind (wpAny_holding (wpAny_point (wpAny_pure hr)))) fun _ _ x => x)
theorem pi_enumS {X : Cx} {e e2 : Expr} {ta tk : TA} {p pos tpos kpos : Pos} {elts : List Expr} {kk : Nat} (hg : Gl X "enumerate") (hm : X.mg "enumerate" = none) (ha : PA X [e] ta) (hk : PK X [⟨some (Str.ofString "start"), e2, kpos⟩] tk) (hs : starEach [e] X.env = [(false, eval e X.env)] := by rfl) :
    PI X (.Tuple elts kk tpos) (.Call (.Name "enumerate" p) [e] [⟨some (Str.ofString "start"), e2, kpos⟩] pos) (iEnumS X.K ta tk) := by
  refine ⟨fun pins s σ H R I h => ?_⟩
  refine wpAny_Call_Name_kw (ld_blt I hg hm boot_enumerate ?_)
  refine callWith_typeK (thn (ha.run pos pins s σ H _ I h) fun us s1 ⟨vs, H1, I1, r1, q1⟩ => thn (hk.run pos pins s1 σ H1 _ I1 q1) fun ws s2 ⟨zs, H2, I2, r2, q2⟩ => ?_) (by rw [hs]; rfl) (by rw [hs]; rfl)
  obtain ⟨a, xs, k, rfl, rfl, hk0, hk1, hq, q⟩ := q2
  obtain rfl := Vals.ref1 r1
  obtain ⟨w1, rfl, t, rfl⟩ := vals1 r2
  obtain ⟨its, rv, p', hz⟩ := I2.list hq
  show wpAny _ _ (call (.type "enumerate") [.ref a] [(Str.ofString "start", .int k t)]) _ _ _
  refine enum_begins_start (begins_list a its.toArray) p'.isList hk0 hk1 fun h' he hit hsz hkp => wpAny_pyIter_enum he ?_
  have I3 : Inv X pins σ H2 { s2 with heap := h' } := I2.kept (t' := s2.toks) hkp
  have he2 : IsEnum h' (s2.heap.objs.size + 1) s2.heap.objs.size (k + ((0 : Nat) : Int)) .none := by
    have : k + ((0 : Nat) : Int) = k := by omega
    rw [this]; exact he
  refine ⟨s2.heap.objs.size + 1, [s2.heap.objs.size + 1, s2.heap.objs.size], _, _, H2, rfl, I3, turn_enumS a (s2.heap.objs.size + 1) s2.heap.objs.size k, ⟨⟨.none, he2⟩, ⟨_, hit, rfl, rfl⟩, Nat.succ_ne_self _⟩, fun b hb => ?_, q⟩
  have e' : b = s2.heap.objs.size + 1 ∨ b = s2.heap.objs.size := by simpa using hb
  have hle : s2.heap.objs.size ≤ b := by
    rcases e' with z | z
    · rw [z]; exact Nat.le_add_right _ _
    · rw [z]; exact Nat.le_refl _
  exact I2.fpOk hle (I2.hok.fresh hle)
end L2
end
section
set_option maxRecDepth 100000
set_option maxHeartbeats 4000000
namespace L2
open PySem PySem.Spec PyProof.Rows
/-! ### Base.__init__(self, ..), Base an own class that has no __init__ of its own and descends from ValueError -/
structure SeTxt (K : PySem.W.Frag) (CS : Addr) : Prop where
  rd : PySem.W.readsIn K CS (.type "type") = true
  ga : PySem.W.specialIn K (.ref CS) "__getattribute__" = some (some (.builtin "type.__getattribute__"))
  at_ : PySem.W.findCls K (.ref CS) (.type "type") "__init__" = some (.val (.builtin "ValueError.__init__"))
def seB (K : PySem.W.Frag) (CS : Addr) : Bool := PySem.W.readsIn K CS (.type "type") && (decide (PySem.W.specialIn K (.ref CS) "__getattribute__" = some (some (.builtin "type.__getattribute__"))) && (match PySem.W.findCls K (.ref CS) (.type "type") "__init__" with
  | some (.val v) => decide (v = .builtin "ValueError.__init__")
  | _ => false))
theorem seB_ok {K : PySem.W.Frag} {CS : Addr} (h : seB K CS = true) : SeTxt K CS := by
  obtain ⟨h1, h2⟩ := Bool.and_eq_true_iff.mp h
  obtain ⟨h3, h4⟩ := Bool.and_eq_true_iff.mp h2
  refine ⟨h1, of_decide_eq_true h3, ?_⟩
  split at h4
  · rename_i v e
    rw [e, of_decide_eq_true h4]
  · cases h4
section
variable {X : Cx} {e : Expr} {es : List Expr} {ta : TA} {x : Str} {p1 p2 pos : Pos} {CS : Addr}
theorem pe_seinit {pl : Sem Bool} (T : SeTxt X.K CS) (hg : Gl X x) (hm : X.mg x = some (.ref CS)) (ha : PA X (e :: es) ta)
    (hdb : (x == ("__debug__" : Str)) = false := by decide)
    (hc : eval (.Call (.Attribute (.Name x p1) "__init__" p2) (e :: es) [] pos) X.env = (do
      let ov ← eval (.Name x p1) X.env
      standAt p2.atName
      let (f, first) ← holding [ov] (getMethod ov "__init__" pl)
      callWith pos f first (backTo pos (starEach (e :: es) X.env)) (backToKw pos (keywordEach [] X.env))) := by rfl)
    (he : starEach (e :: es) X.env = (false, eval e X.env) :: starEach es X.env := by rfl) (hpl : (backTo pos (starEach es X.env)).any (·.1) = false := by rfl) :
    PE X (.Call (.Attribute (.Name x p1) "__init__" p2) (e :: es) [] pos) (tVeI X.K ta) := by
  refine ⟨fun pins s σ H Q I h => ?_⟩
  refine PySem.W.methodCall_KW (ld_glob I hg hm ?_ hdb) hc
  obtain ⟨m, fr⟩ := I.fr
  refine PySem.W.method_of_cls fr I.ok.mod.kin T.ga ?_
  refine PySem.W.cls_value I.kIn T.rd T.at_ (by decide +kernel) ?_
  show wpAny _ _ (callWith pos (Value.builtin "ValueError.__init__") [] (backTo pos (starEach (e :: es) X.env)) []) _ _ _
  refine PyProof.Rows.callWith_method1 (thn (ha.run pos pins _ σ H _ (I.tok _) h) fun us s1 ⟨vs, H1, I1, r1, a, C, ws, ev, hl, T, ea, q⟩ => ?_) he hpl
  subst ev
  cases r1 with
  | @cons _ u0 _ ur ra rw' =>
    obtain rfl : u0 = Value.ref a := ra
    have hlen : ur.length ≤ sizeLine := by
      rw [← Paired.length rw', sizeLine_eq]
      omega
    exact oinit_ok T I1 ea hlen fun s' J => ⟨.non, H1, J, rfl, q⟩
end
end L2
end
section
set_option maxRecDepth 100000
set_option maxHeartbeats 4000000
namespace L2
open PySem PySem.Spec PyProof.Rows
/-! ### the exception that a context bears: its fields, its class -/
section
variable {X : Cx} {p : Addr × Obj} {cls : Value} {d : Option Addr} {C D : Addr} {n : Str} {e : Expr} {te : TE} {pos : Pos}
theorem pe_xfG (hp : p ∈ X.pn) (T : XfC X.K C) (hno : PySem.W.findIn X.K (.ref C) n = some none) (hz : Zc cls d p.2) (hf : ∃ vs, p.2.data = .fields vs) (he : PE X e te)
    (hb : attributeBase e n X.env (eval e X.env) = eval e X.env := by rfl) : PE X (.Attribute e n pos) (tXf p.1 cls d C n te) := by
  constructor
  intro pins s σ H Q I h
  refine attr_of hb (thn (he.run pins s σ H _ I h) ?_)
  rintro u s1 ⟨x, H1, I1, rx, rfl, rfl, dd, fs, v, rfl, ea, l, q⟩
  obtain rfl : u = Value.ref p.1 := rx
  have hget := (I1.pin p (List.mem_append_left _ hp)).1
  obtain ⟨vs, hdat⟩ := hf
  have hobj : ObjOk X.prog X.w H1 s1.heap dd (.xd fs) := I1.hok dd _ ea
  obtain ⟨mA, hns, hrel⟩ := hobj
  obtain ⟨od, hod, hlook⟩ := lookIn_ns hns
  obtain ⟨u2, hu2, ru2⟩ := RelO.some_of (v := v) (o := mA n) (by rw [← l]; exact hrel n)
  have at_ : PySem.W.InstAt s1.heap p.1 p.2 C (some od) := ⟨hget, hz.1, by unfold PySem.W.notCls; rw [hdat] <;> rfl, by rw [hz.2]; exact hod⟩
  exact HandSPX.exc_get I1.kIn at_ T.ga T.gg T.exC (PySem.W.findObj_own T.hdC hno rfl (by rw [hlook, hu2])) (handed_of ru2) ⟨v, H1, I1.tok _, ru2, q⟩
/-- isinstance(e, c), e the exception at p, of the class at D, its own dict at d -/
def rIsD (K : PySem.W.Frag) (D a d : Addr) : List V → Hp → VK → Prop := fun xs H Q => ∃ (c : V) (cv : Value) (b : Bool) (fs : List (Str × V)), xs = [.ref a, c] ∧ (∀ u, RelV c u → u = cv) ∧ H d = some (.xd fs) ∧ PySem.W.kitOne K (.ref D) cv = some b ∧ Q (.bl b) H
theorem call_isD {d : Addr} (hp : p ∈ X.pn) (T : ExcC X.K D) (hz : Zc (.ref D) (some d) p.2) (hf : ∃ vs, p.2.data = .fields vs) : CallR X (.builtin "isinstance") (rIsD X.K D p.1 d) := by
  intro pins s σ H xs us Q I r h
  obtain ⟨c, cv, b, fs, rfl, hcv, ed, hkit, q⟩ := h
  obtain ⟨u1, u2, rfl, r1, r2⟩ := vals2 r
  obtain rfl : u1 = Value.ref p.1 := r1
  obtain rfl : u2 = cv := hcv _ r2
  have hget := (I.pin p (List.mem_append_left _ hp)).1
  have hobj : ObjOk X.prog X.w H s.heap d (.xd fs) := I.hok d _ ed
  obtain ⟨mA, hns, hrel⟩ := hobj
  obtain ⟨od, hod, hlook⟩ := lookIn_ns hns
  obtain ⟨vs, hdat⟩ := hf
  have at_ : PySem.W.InstAt s.heap p.1 p.2 D (some od) := ⟨hget, hz.1, by unfold PySem.W.notCls; rw [hdat] <;> rfl, by rw [hz.2]; exact hod⟩
  have hcl : (PySem.W.clsIn X.K D).isSome = true := by
    obtain ⟨cd, hc, _⟩ := PySem.W.any_some T.hd
    rw [hc]; rfl
  exact PySem.W.kia_one (PySem.W.kitx_exc (gt := none) hcl T.hg T.hk T.hs T.ha T.hn T.ht T.hm) I.kIn at_ hkit (fun z => nomatch z) fun tk => ⟨.bl b, H, I.tok tk, rfl, q⟩
end
/-! ### a def that is handed the exception which an except suite holds -/
abbrev SpE := Addr → Value → Option Addr → Sp
structure FnE (P : Program) (w : World) (K : PySem.W.Frag) (mg : Str → Option Value) (base : Heap) (k : Nat) (f : Addr) (fd : FuncData) (ps : List Str) (sp : SpE) : Prop where
  len : ∀ a cls d vs H Q E, sp a cls d vs H Q E → vs.length = ps.length
  run : ∀ (A : Around) (outer : List Env) (s : Shared) (H : Hp) (args : Args) (us : List Value) (vs : List V) (Q : VK) (p : Addr × Obj) (cls : Value) (d : Option Addr), L2H.RoomH k A → Zc cls d p.2 → (∃ vs, p.2.data = .fields vs) → L2H.PinOk outer H s p →
    Env0 P w K mg base A outer s H → BindsTo s fd args (ps.zip us) → Vals vs us → sp p.1 cls d vs H Q E0 → codeAny (model P w) A (.call (.ref f) args) (CR CX0 outer P w H s Q E0) s
theorem fnE_of {P : Program} {w : World} {K : PySem.W.Frag} {mg : Str → Option Value} {base : Heap} {k : Nat} {f : Addr} {name qual : Str} {params : Arguments} {body : List Stmt} {scope : Scope} {dV kV doc pm cdv ct oc : Value} {an od : Option Addr}
    {osl : Array (Option Value)} {N ps : List Str} {sp : SpE} (lk : K.lookup f = some ⟨oc, od, .func (PySem.W.fnOf name qual params body scope dV kV doc pm an cdv ct), osl⟩) (hcd : PySem.W.codeIn K cdv qual = true) (S : FnScope N ps scope)
    (len : ∀ a cls d vs H Q E, sp a cls d vs H Q E → vs.length = ps.length)
    (hbody : ∀ (A : Around) (outer : List Env) (s : Shared) (H : Hp) (vs : List V) (Q : VK) (p : Addr × Obj) (cls : Value) (d : Option Addr), L2H.RoomH k (A.deeper (envOfC qual scope s.heap.objs.size f cdv)) → Zc cls d p.2 → (∃ vs, p.2.data = .fields vs) → sp p.1 cls d vs H Q E0 →
      ∃ t, PSs (L2H.cxH CX0 P w K mg base N qual scope f cdv A outer s H E0 p) body t ∧ t { nx := fun _ H' => Q .non H', rt := Q } (L2.start N vs) H) :
    FnE P w K mg base (k + 1) f (PySem.W.fnOf name qual params body scope dV kV doc pm an cdv ct) ps sp := by
  constructor
  · exact len
  intro A outer s H args us vs Q p cls d hr hz hf hpin e0 hb r hsp
  have hlen := len _ _ _ _ _ _ _ hsp
  have hK : K.In s.heap := e0.mod.kin.keeps fun b o e => (e0.bs b o e).1
  have hLim : s.heap.NoLimit := e0.mod.nolimit.keeps fun b o e => (e0.bs b o e).1
  have hpar : ∀ y ∈ ps.zip us, scope.names.lookup y.1 = some .local ∨ (scope.names.lookup y.1 = some .cell ∧ ((cellsFrom (s.heap.objs.size + 1) scope.names []).lookup y.1).isSome = true) := by
    rintro ⟨n, v⟩ hy
    exact (S.par n (List.of_mem_zip hy).1).imp id fun q => ⟨q, PySem.W.cellsFrom_some _ _ _ (.inl q)⟩
  refine codeAny_call_function hr.depth (hK _ _ lk) rfl S.co S.gen rfl (PySem.W.codeRec_of hK hcd) (hb _ _ _ _ ?_)
  refine wpAny_newFunctionEnv_cells S.kind hpar ?_
  rintro env rfl s1 x
  refine ⟨hLim.keeps x.toInCall.keep, codeAny_func ?_⟩
  obtain ⟨t, ht, hq⟩ := hbody A outer s H vs Q p cls d (hr.deeper _) hz hf hsp
  refine wpAny_mono (ht.run [] s1 (L2.start N vs) H _ (L2H.inv_startH S hpin e0 hlen r x) hq) ?_ fun e s' hs => hs
  intro fl s' hs
  cases fl with
  | ret u =>
    obtain ⟨v, σ', H', J, rv, q⟩ := hs
    exact ⟨v, H', J.os, J.bare, J.base, J.hok, rv, q⟩
  | next =>
    obtain ⟨σ', H', J, q⟩ := hs
    exact ⟨V.non, H', J.os, J.bare, J.base, J.hok, rfl, q⟩
  | brk => exact hs.elim fun _ z => z.elim fun _ z => z.2.elim
  | cont => exact hs.elim fun _ z => z.elim fun _ z => z.2.elim
def tCallE (sp : Sp) (t : TA) : TE := fun σ H Q => t σ H fun vs H1 => sp vs H1 Q E0
theorem pe_callE {X : Cx} {k : Nat} {f : Addr} {fd : FuncData} {ps : List Str} {sp : SpE} {x : Str} {q pos : Pos} {e : Expr} {es : List Expr} {t : TA} {p : Addr × Obj} {cls : Value} {d : Option Addr} (F : FnE X.prog X.w X.K X.mg X.base k f fd ps sp) (hr : L2H.RoomH k X.A)
    (hp : p ∈ X.pn) (hz : Zc cls d p.2) (hf : ∃ vs, p.2.data = .fields vs) (hg : Gl X x) (hm : X.mg x = some (.ref f)) (hk : PySem.W.keepIn X.K (.ref f) = true) (hb : Binds X.K fd ps [])
    (ha : PA X (e :: es) t) (hdb : (x == ("__debug__" : Str)) = false := by decide) (he : starEach (e :: es) X.env = (false, eval e X.env) :: starEach es X.env := by rfl) (hpl : (backTo pos (starEach es X.env)).any (·.1) = false := by rfl) :
    PE X (.Call (.Name x q) (e :: es) [] pos) (tCallE (sp p.1 cls d) t) := by
  constructor
  intro pins s σ H Q I h
  refine wpAny_Call_Name_kw (ld_glob I hg hm ?_ hdb)
  refine PySem.W.callWith_K (h₀ := X.base) I.ok.mod.kin hk (thn (ha.run pos pins s σ H _ I h) ?_) he hpl
  rintro us s1 ⟨vs, H1, I1, r, hsp⟩
  refine ⟨I1.kIn, ?_⟩
  have hlen : us.length = ps.length := by rw [← r.length]; exact F.len _ _ _ _ _ _ _ hsp
  have hbind := hb s1 us I1.kIn (by rw [List.append_nil]; exact hlen)
  rw [List.append_nil] at hbind
  obtain ⟨g1, g2, g3, g4, g5⟩ := I1.pin p (List.mem_append_left _ hp)
  have hpin : L2H.PinOk X.stack H1 s1 p := ⟨g1, g2, fun hm => (List.mem_cons.mp (I1.stkSub p.1 hm)).elim g3 g4, g5⟩
  refine wpAny_call (codeAny_mono (F.run X.A X.stack s1 H1 ⟨us, []⟩ us vs Q p cls d hr hz hf hpin I1.env0 hbind r hsp) ?_)
  intro r s' hq
  cases r with
  | error e => exact False.elim hq
  | ok fl =>
    cases fl with
    | ret u => exact I1.after hq
    | next => exact False.elim hq
    | brk => exact False.elim hq
    | cont => exact False.elim hq
/-! ### a def that asks that no repr is under way -/
structure FnG (P : Program) (w : World) (K : PySem.W.Frag) (mg : Str → Option Value) (base : Heap) (k : Nat) (f : Addr) (fd : FuncData) (ps : List Str) (sp : Sp) : Prop where
  len : ∀ vs H Q E, sp vs H Q E → vs.length = ps.length
  run : ∀ (A : Around) (outer : List Env) (s : Shared) (H : Hp) (args : Args) (us : List Value) (vs : List V) (Q : VK), Room k A → A.guards = some [] → Env0 P w K mg base A outer s H → BindsTo s fd args (ps.zip us) → Vals vs us → sp vs H Q E0 →
    codeAny (model P w) A (.call (.ref f) args) (CR CX0 outer P w H s Q E0) s
theorem fnG_of {P : Program} {w : World} {K : PySem.W.Frag} {mg : Str → Option Value} {base : Heap} {k : Nat} {f : Addr} {name qual : Str} {params : Arguments} {body : List Stmt} {scope : Scope} {dV kV doc pm cdv ct oc : Value} {an od : Option Addr}
    {osl : Array (Option Value)} {N ps : List Str} {sp : Sp} (lk : K.lookup f = some ⟨oc, od, .func (PySem.W.fnOf name qual params body scope dV kV doc pm an cdv ct), osl⟩) (hcd : PySem.W.codeIn K cdv qual = true) (S : FnScope N ps scope)
    (hbs : ∀ (s : Shared) (us : List Value), us.length = ps.length → BindsTo s (PySem.W.fnOf name qual params body scope dV kV doc pm an cdv ct) ⟨us, []⟩ (ps.zip us))
    (len : ∀ vs H Q E, sp vs H Q E → vs.length = ps.length)
    (hbody : ∀ (A : Around) (outer : List Env) (s : Shared) (H : Hp) (vs : List V) (Q : VK), Room k (A.deeper (envOfC qual scope s.heap.objs.size f cdv)) → (A.deeper (envOfC qual scope s.heap.objs.size f cdv)).guards = some [] → sp vs H Q E0 →
      ∃ t, PSs (cxOf CX0 P w K mg base N qual scope f cdv A outer s H E0).nox body t ∧ t { nx := fun _ H' => Q .non H', rt := Q } (L2.start N vs) H) :
    FnG P w K mg base (k + 1) f (PySem.W.fnOf name qual params body scope dV kV doc pm an cdv ct) ps sp := by
  constructor
  · exact len
  intro A outer s H args us vs Q hr hgd e0 hb r hsp
  refine LamX.run_ofS lk hcd S hr e0 hb r (len _ _ _ _ hsp) fun hr' => ?_
  obtain ⟨t, h, q⟩ := hbody A outer s H vs Q hr' (by first | exact hgd | (show A.guards = some []; exact hgd)) hsp
  exact ⟨t, h.nox, q⟩
theorem pe_callG {X : Cx} {k : Nat} {f : Addr} {fd : FuncData} {ps : List Str} {sp : Sp} {x : Str} {q pos : Pos} {e : Expr} {es : List Expr} {t : TA} (F : FnG X.prog X.w X.K X.mg X.base k f fd ps sp) (hr : Room k X.A) (hgd : X.A.guards = some [])
    (hg : Gl X x) (hm : X.mg x = some (.ref f)) (hk : PySem.W.keepIn X.K (.ref f) = true) (hb : Binds X.K fd ps [])
    (ha : PA X (e :: es) t) (hdb : (x == ("__debug__" : Str)) = false := by decide) (he : starEach (e :: es) X.env = (false, eval e X.env) :: starEach es X.env := by rfl) (hpl : (backTo pos (starEach es X.env)).any (·.1) = false := by rfl) :
    PE X (.Call (.Name x q) (e :: es) [] pos) (tCallE sp t) := by
  constructor
  intro pins s σ H Q I h
  refine wpAny_Call_Name_kw (ld_glob I hg hm ?_ hdb)
  refine PySem.W.callWith_K (h₀ := X.base) I.ok.mod.kin hk (thn (ha.run pos pins s σ H _ I h) ?_) he hpl
  rintro us s1 ⟨vs, H1, I1, r, hsp⟩
  refine ⟨I1.kIn, ?_⟩
  have hlen : us.length = ps.length := by rw [← r.length]; exact F.len _ _ _ _ hsp
  have hbind := hb s1 us I1.kIn (by rw [List.append_nil]; exact hlen)
  rw [List.append_nil] at hbind
  refine wpAny_call (codeAny_mono (F.run X.A X.stack s1 H1 ⟨us, []⟩ us vs Q hr hgd I1.env0 hbind r hsp) ?_)
  intro r s' hq
  cases r with
  | error e => exact False.elim hq
  | ok fl =>
    cases fl with
    | ret u => exact I1.after hq
    | next => exact False.elim hq
    | brk => exact False.elim hq
    | cont => exact False.elim hq
/-! ### repr of a list or a tuple of plain data -/
def rReprD (K : PySem.W.Frag) : List V → Hp → VK → Prop := fun xs H Q => ∃ (a : Addr) (d : PyData), xs = [.ref a] ∧ Dp K H (.ref a) d ∧ d.showable = true ∧ d.hasDict = false ∧ d.depth ≤ 8 ∧ d.shown.length ≤ sizeLine ∧ Q (.str d.shown) H
theorem call_reprD {X : Cx} {k : Nat} (hr : Room k X.A) (hgd : X.A.guards = some []) : CallR X (.builtin "repr") (rReprD X.K) := by
  intro pins s σ H xs us Q I r h
  obtain ⟨a, d, rfl, hd, h1, h2, h3, h4, q⟩ := h
  obtain rfl := Vals.ref1 r
  obtain ⟨as, rd⟩ := Dp.reads I d (.ref a) (.ref a) hd rfl
  have hu := hr.units
  refine repr_of_reads' rd h1 (fun z => by rw [h2] at z; cases z) hgd (by omega) (fun b o e => e) (fun h' u tk hk => ?_) h4
  exact ⟨.str d.shown, H, I.kept hk, ⟨u, rfl⟩, q⟩
end L2
end
section
set_option maxRecDepth 100000
set_option maxHeartbeats 4000000
namespace LamX
open PySem PySem.Spec PyProof.Rows L2
/-! ### x(lambda: body, e2): the def takes the lambda and one value -/
/-- the callee's body for any reading tl of the lambda; call(): its first parameter -/
def Gives2 (X : Cx) (Ng : List Str) (x : Str) (sg : Scope) (g : Addr) (cdg : Value) (bg : List Stmt) (a : Str) (q : Str) (TT : (XK → Hp → VK → Prop) → (Hp → Prop) → V → Hp → VK → Prop) : Prop :=
  ∀ (f c' : Addr) (s : Shared) (H : Hp) (Q : VK) (v2 : V) (tl : XK → Hp → VK → Prop),
    (∀ (W : WX) (pn : List (Addr × Obj)) (xe : Value → Shared → Prop) (E : XK) (p1 p2 : Pos), Takes ((cxOf C8.CX0 X.prog X.w X.K X.mg X.base Ng x sg g cdg X.A X.stack s H C8.E0).tr pn xe) W → (∀ cls d σ' H', E cls d H' → W cls d σ' H') →
      PE ((cxOf C8.CX0 X.prog X.w X.K X.mg X.base Ng x sg g cdg X.A X.stack s H C8.E0).tr pn xe) (.Call (.Name a p1) [] [] p2) (fun σZ HZ Q => σZ[0]? = some (some (.ref f)) ∧ HZ c' = some (CodeO c' q) ∧ tl E HZ Q)) →
    H c' = some (CodeO c' q) → TT tl (fun H' => H' c' = some (CodeO c' q)) v2 H Q →
    ∃ t, PSs (cxOf C8.CX0 X.prog X.w X.K X.mg X.base Ng x sg g cdg X.A X.stack s H C8.E0).nox bg t ∧ t { nx := fun _ H' => Q .non H', rt := Q } (L2.start Ng [.ref f, v2]) H
def tLam2 (T : List (Addr × Str)) (q : Str) (TT : (XK → Hp → VK → Prop) → (Hp → Prop) → V → Hp → VK → Prop) (t : XK → TE) (te : TE) : TE := fun σ H Q => Tabs T H ∧ ∀ H1 c', ExtN H H1 → Tabs T H1 → H1 c' = some (CodeO c' q) →
  te σ H1 fun x H2 => ∃ v2, [x] = [v2] ∧ H2 c' = some (CodeO c' q) ∧ TT (fun E H' Q' => t E σ H' Q') (fun H' => H' c' = some (CodeO c' q)) v2 H2 Q
end LamX
end
section
set_option maxRecDepth 100000
set_option maxHeartbeats 4000000
/-! ### checks of exception classes in the written part -/
namespace L2
open PySem PySem.Spec PyProof.Rows
/-- the class at C descends from ValueError by own classes, its __init__ is the def at f -/
def oexB (K : PySem.W.Frag) (C : Addr) : Bool := (match K.lookup C with
  | some ⟨.type t, _, .cls cd, sl⟩ => decide (t = "type") && (match cd.mro, sl.toList with
    | .ref C' :: bm, [_, _, _, _, some (.builtin n), _] => decide (C' = C) && (decide (n = "ValueError.__new__") && (!cd.hasDel && (cd.hasDict && PySem.HandSPX.refsVE bm)))
    | _, _ => false)
  | _ => false) && (decide (PySem.W.findIn K (.ref C) "__setattr__" = some (some (.builtin "object.__setattr__"))) && (decide (PySem.W.subIn K (.ref C) (.type "BaseException") = some true) && (decide (PySem.W.typeIn K (.ref C) = some (.type "type")) && PySem.W.keepIn K (.ref C))))
theorem and2 {a b : Bool} (h : (a && b) = true) : a = true ∧ b = true := Bool.and_eq_true_iff.mp h
theorem oexB_ok {K : PySem.W.Frag} {C : Addr} (h : oexB K C = true) : OexC K C := by
  obtain ⟨h1, h⟩ := and2 h
  obtain ⟨h2, h⟩ := and2 h
  obtain ⟨h3, h⟩ := and2 h
  obtain ⟨h4, h5⟩ := and2 h
  refine ⟨?_, of_decide_eq_true h2, of_decide_eq_true h3, of_decide_eq_true h4, h5⟩
  split at h1
  · rename_i t dd cd sl ho
    obtain ⟨ht, h1⟩ := and2 h1
    have ht := of_decide_eq_true ht
    subst ht
    split at h1
    · rename_i C' bm k0 k1 k2 k3 n k5 hm hs
      obtain ⟨e0, h1⟩ := and2 h1
      obtain ⟨e1, h1⟩ := and2 h1
      obtain ⟨e2, h1⟩ := and2 h1
      obtain ⟨e3, h1⟩ := and2 h1
      obtain ⟨e4, e5⟩ := and2 h1
      have g1 := of_decide_eq_true e1
      have g2 := of_decide_eq_true e2
      have g3 : cd.hasDel = false := by
        cases q : cd.hasDel with
        | false => rfl
        | true =>
          rw [q] at e3
          cases e3
      clear h1 e0 e1 e2 e3 h
      subst g1 g2
      obtain ⟨nm, bs, mro, ns, qn, hd, sn, sub, ab, col, del⟩ := cd
      dsimp only at hm g3 e4
      subst hm g3 e4
      have hsl : sl = #[k0, k1, k2, k3, some (.builtin "ValueError.__new__"), k5] := by
        obtain ⟨l⟩ := sl
        simp only at hs
        rw [hs]
      subst hsl
      exact ⟨_, _, _, _, bm, _, _, _, _, _, _, _, _, _, _, ho, e5⟩
    · cases h1
  · cases h1
/-- .. and asked by isinstance -/
def excCB (K : PySem.W.Frag) (D : Addr) : Bool := decide (PySem.W.findIn K (.ref D) "__getattribute__" = some (some (.builtin "BaseException.__getattribute__"))) && (decide (PySem.W.findIn K (.ref D) "__getattr__" = some none) &&
  (decide (PySem.W.subIn K (.ref D) (.type "BaseException") = some true) && (PySem.W.hasDictIn K D && (decide (PySem.W.findIn K (.ref D) "__class__" = some (some (.builtin "object.__class__"))) &&
  (decide (PySem.W.specialIn K (.builtin "object.__class__") "__get__" = some (some (.builtin "getset_descriptor.__get__"))) && (decide (PySem.W.takesIn K (.builtin "object.__class__") = some true) && decide (PySem.W.mroIn K D (.type "object") = some true)))))))
theorem excCB_ok {K : PySem.W.Frag} {D : Addr} (h : excCB K D = true) : ExcC K D := by
  obtain ⟨h1, h⟩ := and2 h
  obtain ⟨h2, h⟩ := and2 h
  obtain ⟨h3, h⟩ := and2 h
  obtain ⟨h4, h⟩ := and2 h
  obtain ⟨h5, h⟩ := and2 h
  obtain ⟨h6, h⟩ := and2 h
  obtain ⟨h7, h8⟩ := and2 h
  exact ⟨of_decide_eq_true h1, of_decide_eq_true h2, of_decide_eq_true h3, h4, of_decide_eq_true h5, of_decide_eq_true h6, of_decide_eq_true h7, of_decide_eq_true h8⟩
/-- the whole of a class that is raised: its __init__ at f, what its instances' fields ask -/
structure ExT (K : PySem.W.Frag) (C f : Addr) : Prop where
  oex : OexC K C
  init : PySem.W.findIn K (.ref C) "__init__" = some (some (.ref f))
  fn : PySem.W.typeIn K (.ref f) = some (.type "function")
  xf : XfC K C
  exc : ExcC K C
def exTB (K : PySem.W.Frag) (C f : Addr) : Bool := oexB K C && (decide (PySem.W.findIn K (.ref C) "__init__" = some (some (.ref f))) && (decide (PySem.W.typeIn K (.ref f) = some (.type "function")) && (xfB K C && excCB K C)))
theorem exTB_ok {K : PySem.W.Frag} {C f : Addr} (h : exTB K C f = true) : ExT K C f := by
  obtain ⟨h1, h⟩ := and2 h
  obtain ⟨h2, h⟩ := and2 h
  obtain ⟨h3, h⟩ := and2 h
  obtain ⟨h4, h5⟩ := and2 h
  exact ⟨oexB_ok h1, of_decide_eq_true h2, of_decide_eq_true h3, xfB_ok h4, excCB_ok h5⟩
abbrev FnP (K : PySem.W.Frag) (x : Str) (st : Stmt) (f : Addr) (fd : FuncData) : Prop := FunD K x x (defArgs st) (defBody st) (defScope st) [] [] f fd
abbrev FnM (K : PySem.W.Frag) (x q : Str) (st : Stmt) (f : Addr) (fd : FuncData) : Prop := FunD K x q (defArgs st) (defBody st) (defScope st) [] [] f fd
/-- a def of the top, known by its name, keeps the promise sp -/
structure Ok (P : Program) (w : World) (K : PySem.W.Frag) (mg : Str → Option Value) (base : Heap) (CX : CXT) (k : Nat) (x : Str) (ps : List Str) (sp : Sp) : Prop where
  ex : ∃ f fd, FnOk P w K mg base CX k f fd ps sp ∧ mg x = some (.ref f) ∧ PySem.W.keepIn K (.ref f) = true ∧ Binds K fd ps []
section
variable {P : Program} {w : World} {K : PySem.W.Frag} {mg : Str → Option Value} {base : Heap} {CX : CXT} {k j : Nat} {x : Str} {ps N : List Str} {sp sp' : Sp} {st : Stmt}
theorem Ok.mono (o : Ok P w K mg base CX j x ps sp) (h : j ≤ k) : Ok P w K mg base CX k x ps sp := by
  obtain ⟨f, fd, h1, h2⟩ := o.ex
  exact ⟨f, fd, h1.mono h, h2⟩
theorem Ok.imp (o : Ok P w K mg base CX k x ps sp) (h : ∀ vs H Q E, sp' vs H Q E → sp vs H Q E) : Ok P w K mg base CX k x ps sp' := by
  obtain ⟨f, fd, h1, h2⟩ := o.ex
  exact ⟨f, fd, h1.imp h, h2⟩
/-- a promise that is never asked -/
theorem Ok.never (e : ∃ f fd, FnP K x st f fd ∧ mg x = some (.ref f))
    (hb : ∀ (kV doc pm : Value) (an : Option Addr) (cdv ct : Value) (us : List Value), us.length = ps.length → bindArgs (PySem.W.fnOf x x (defArgs st) (defBody st) (defScope st) .none kV doc pm an cdv ct) ⟨us, []⟩ = pure (ps.zip us)) : Ok P w K mg base CX k x ps (fun _ _ _ _ => False) := by
  obtain ⟨f, fd, F, g⟩ := e
  exact ⟨f, fd, ⟨fun _ _ _ _ z => z.elim, fun _ _ _ _ _ _ _ _ _ _ _ _ _ z => z.elim⟩, g, F.kp, F.bindsN hb⟩
/-- a def that lets nothing out -/
theorem Ok.def0 (e : ∃ f fd, FnP K x st f fd ∧ mg x = some (.ref f))
    (hb : ∀ (kV doc pm : Value) (an : Option Addr) (cdv ct : Value) (us : List Value), us.length = ps.length → bindArgs (PySem.W.fnOf x x (defArgs st) (defBody st) (defScope st) .none kV doc pm an cdv ct) ⟨us, []⟩ = pure (ps.zip us))
    (S : FnScope N ps (defScope st)) (len : ∀ vs H Q E, sp vs H Q E → vs.length = ps.length)
    (hbody : ∀ (f : Addr) (cdv : Value) (A : Around) (outer : List Env) (s : Shared) (H : Hp) (vs : List V) (Q : VK) (E : XK), Room k (A.deeper (envOfC x (defScope st) s.heap.objs.size f cdv)) → sp vs H Q E →
      ∃ t, PSs (cxOf CX0 P w K mg base N x (defScope st) f cdv A outer s H E).nox (defBody st) t ∧ t { nx := fun _ H' => Q .non H', rt := Q } (start N vs) H) : Ok P w K mg base CX0 (k + 1) x ps sp := by
  obtain ⟨f, fd, F, g⟩ := e
  refine ⟨f, fd, F.ok S len fun cdv A outer s H vs Q E hr h => ?_, g, F.kp, F.bindsN hb⟩
  obtain ⟨t, h1, h2⟩ := hbody f cdv A outer s H vs Q E hr h
  exact ⟨t, h1.nox, h2⟩
/-- a def that may raise -/
theorem Ok.defX (e : ∃ f fd, FnP K x st f fd ∧ mg x = some (.ref f))
    (hb : ∀ (kV doc pm : Value) (an : Option Addr) (cdv ct : Value) (us : List Value), us.length = ps.length → bindArgs (PySem.W.fnOf x x (defArgs st) (defBody st) (defScope st) .none kV doc pm an cdv ct) ⟨us, []⟩ = pure (ps.zip us))
    (S : FnScope N ps (defScope st)) (len : ∀ vs H Q E, sp vs H Q E → vs.length = ps.length)
    (hbody : ∀ (f : Addr) (cdv : Value) (A : Around) (outer : List Env) (s : Shared) (H : Hp) (vs : List V) (Q : VK) (E : XK), Room k (A.deeper (envOfC x (defScope st) s.heap.objs.size f cdv)) → sp vs H Q E →
      Takes (cxOf (L2.CX P w) P w K mg base N x (defScope st) f cdv A outer s H E) (fun cls d _ H => E cls d H) →
      ∃ t, PSs (cxOf (L2.CX P w) P w K mg base N x (defScope st) f cdv A outer s H E) (defBody st) t ∧ t { nx := fun _ H' => Q .non H', rt := Q } (start N vs) H) : Ok P w K mg base (L2.CX P w) (k + 1) x ps sp := by
  obtain ⟨f, fd, F, g⟩ := e
  refine ⟨f, fd, F.ok S len fun cdv A outer s H vs Q E hr h => ?_, g, F.kp, F.bindsN hb⟩
  exact hbody f cdv A outer s H vs Q E hr h (takes_of rfl rfl rfl rfl)
end
section
variable {X : Cx} {CX : CXT} {k : Nat} {x : Str} {ps : List Str} {sp : Sp} {E : XK} {p pos : Pos} {e : Expr} {es : List Expr} {t : TA}
theorem pe_ok (O : Ok X.prog X.w X.K X.mg X.base CX k x ps sp) (hr : Room k X.A) (hg : Gl X x) (hx : Passes CX X E) (ha : PA X (e :: es) t)
    (hdb : (x == ("__debug__" : Str)) = false := by decide) (he : starEach (e :: es) X.env = (false, eval e X.env) :: starEach es X.env := by rfl) (hpl : (backTo pos (starEach es X.env)).any (·.1) = false := by rfl) :
    PE X (.Call (.Name x p) (e :: es) [] pos) (tCall sp [] E t) := by
  obtain ⟨f, fd, F, hm, hk, hb⟩ := O.ex
  exact pe_call F hr hg hm hk hb .nil hx ha hdb he hpl
/-- what is raised is wished for at the caller's slots -/
theorem pe_okS {E : St → XK} (O : Ok X.prog X.w X.K X.mg X.base CX k x ps sp) (hr : Room k X.A) (hg : Gl X x) (hx : ∀ σ, PassesAt CX X σ (E σ)) (ha : PA X (e :: es) t)
    (hdb : (x == ("__debug__" : Str)) = false := by decide) (he : starEach (e :: es) X.env = (false, eval e X.env) :: starEach es X.env := by rfl) (hpl : (backTo pos (starEach es X.env)).any (·.1) = false := by rfl) :
    PE X (.Call (.Name x p) (e :: es) [] pos) (tCallS sp E t) := by
  obtain ⟨f, fd, F, hm, hk, hb⟩ := O.ex
  exact pe_callS F hr hg hm hk hb hx ha hdb he hpl
end
/-- an own exception class, known by its name, whose __init__ keeps sp -/
structure XOk (P : Program) (w : World) (K : PySem.W.Frag) (mg : Str → Option Value) (base : Heap) (k : Nat) (x : Str) (C : Addr) (ps : List Str) (sp : Sp) : Prop where
  ex : ∃ f fd, ExT K C f ∧ FnOk P w K mg base CX0 k f fd ps sp ∧ mg x = some (.ref C) ∧ Binds K fd ps []
theorem pmk_x {X : Cx} {k : Nat} {x : Str} {C : Addr} {ps : List Str} {sp : Sp} {p pos : Pos} {e : Expr} {es : List Expr} {ta : TA} (O : XOk X.prog X.w X.K X.mg X.base k x C ps sp) (hr : Room (k + 1) X.A) (hg : Gl X x) (ha : PA X (e :: es) ta)
    (hdb : (x == ("__debug__" : Str)) = false := by decide) (he : starEach (e :: es) X.env = (false, eval e X.env) :: starEach es X.env := by rfl) (hpl : (backTo pos (starEach es X.env)).any (·.1) = false := by rfl) :
    PMk X (.Call (.Name x p) (e :: es) [] pos) (tMkO C sp [] ta) := by
  obtain ⟨f, fd, T, F, hm, hb⟩ := O.ex
  exact pmk_oex T.oex T.init T.fn F hr hb .nil pass0 hg hm ha hdb he hpl
end L2
end
section
set_option maxRecDepth 100000
set_option maxHeartbeats 4000000
/-! ### the head's facts, the interpreter's own statics among what is looked at -/
namespace He
open PySem PySem.Spec PyProof.Rows L2
def asS (g : Addr → Option Obj) (n : Nat) : List Addr := PySem.cStatics :: asD g n
def obsS (n : Nat) (fa : List Fa) (fn : List DefD) (ts : List Tab) (tf : List Defn) (ex : PySem.W.Frag → Bool) (g : Addr → Option Obj) : AlX := (obsT fa fn ts (frT g (asS g n)), ex (frT g (asS g n)) && tabsB g tf (frT g (asS g n)))
theorem saysS_of {n : Nat} {fa : List Fa} {fn : List DefD} {ts : List Tab} {tf : List Defn} {ex : PySem.W.Frag → Bool} {w : World} {h : Heap} (e : obsS n fa fn ts tf ex h.get? = valX fn ts w) : SaysX fa fn ts tf ex w h (frT h.get? (asS h.get? n)) := by
  have e1 := congrArg Prod.fst e
  have e2 : (ex (frT h.get? (asS h.get? n)) && tabsB h.get? tf (frT h.get? (asS h.get? n))) = true := congrArg Prod.snd e
  obtain ⟨hx, ht⟩ := ba e2
  have tab : ∀ p ∈ tf, PySem.W.codeHdIn (frT h.get? (asS h.get? n)) (cT (frT h.get? (asS h.get? n)) p).1 (cT (frT h.get? (asS h.get? n)) p).2 = true ∧ ∃ o, h.get? (cT (frT h.get? (asS h.get? n)) p).2 = some o ∧ emptyTab o = true := by
    intro p hp
    obtain ⟨c1, c2⟩ := ba (List.all_eq_true.mp ht p hp)
    refine ⟨c1, ?_⟩
    revert c2
    cases h.get? (cT (frT h.get? (asS h.get? n)) p).2 with
    | none => exact fun z => by cases z
    | some o => exact fun z => ⟨o, rfl, z⟩
  exact {
    t := e1
    more := hx
    hd := fun p hp => (tab p hp).1
    out := fun p hp => let ⟨_, o, q, z⟩ := tab p hp; frT_none q z
    empty := fun p hp => let ⟨_, o, q, z⟩ := tab p hp; by rw [q, emptyTab_eq z] }
def hookS (n : Nat) (fa : List Fa) (fn : List DefD) (ts : List Tab) (tf : List Defn) (ex : PySem.W.Frag → Bool) : PySem.W.Hook where
  α := AlX
  obs := fun s => obsS n fa fn ts tf ex s.heap.get?
  val := fun w => valX fn ts w
  says := fun w h => ∃ K : PySem.W.Frag, K.In h ∧ SaysX fa fn ts tf ex w h K
  of := fun _ _ e => ⟨_, frT_in, saysS_of e⟩
  keeps := fun _ _ _ ⟨K, hK, c⟩ k => ⟨K, PySem.W.Frag.In.keeps hK k, ⟨c.t, c.more, c.hd, c.out, fun p hp => k _ _ (c.empty p hp)⟩⟩
theorem obsS_eq {n : Nat} {fa : List Fa} {fn : List DefD} {ts : List Tab} {tf : List Defn} {ex : PySem.W.Frag → Bool} {g : Addr → Option Obj} {s : Shared} (h : ∀ a, g a = s.heap.get? a) : obsS n fa fn ts tf ex g = (hookS n fa fn ts tf ex).obs s := by
  obtain rfl : g = s.heap.get? := funext h
  rfl
end He
end
section
set_option maxRecDepth 100000
set_option maxHeartbeats 4000000
namespace K26
open PySem PySem.Spec PyProof.Rows L2
def top (i : Nat) : Stmt := PySem.Challenge.pw_seenenough_k26_key_and_tight_stretches.main.body.getD i (.Pass ⟨0, 0, 0, 0⟩)
abbrev s_check_one_can : Stmt := top 11
theorem sc_check_one_can : FnScope ["almanac", "rains", "at"] ["almanac"] (defScope s_check_one_can) := ⟨rfl, rfl, rfl, by decide +kernel, rfl, by decide +kernel, by decide +kernel⟩
abbrev s_check_weather : Stmt := top 12
theorem sc_check_weather : FnScope ["almanac", "weather", "wrong"] ["almanac", "weather"] (defScope s_check_weather) := ⟨rfl, rfl, rfl, by decide +kernel, rfl, by decide +kernel, by decide +kernel⟩
abbrev s_all_stretches : Stmt := top 13
theorem sc_all_stretches : FnScope ["days", "b", "a"] ["days"] (defScope s_all_stretches) := ⟨rfl, rfl, rfl, by decide +kernel, rfl, by decide +kernel, by decide +kernel⟩
abbrev s_span_counts : Stmt := top 14
theorem sc_span_counts : FnScope ["almanac", "days", "rains", "counts", "a", "ending", "rain", "total", "b"] ["almanac"] (defScope s_span_counts) := ⟨rfl, rfl, rfl, by decide +kernel, rfl, by decide +kernel, by decide +kernel⟩
abbrev s_fall_counts : Stmt := top 15
theorem sc_fall_counts : FnScope ["weather", "total", "fallen", "report", "fall"] ["weather"] (defScope s_fall_counts) := ⟨rfl, rfl, rfl, by decide +kernel, rfl, by decide +kernel, by decide +kernel⟩
abbrev s_key_stretches : Stmt := top 16
theorem sc_key_stretches : FnScope ["almanac", "days", "counts", "found", "a", "b", "earlier", "later"] ["almanac"] (defScope s_key_stretches) := ⟨rfl, rfl, rfl, by decide +kernel, rfl, by decide +kernel, by decide +kernel⟩
abbrev s_tight_among : Stmt := top 17
theorem sc_tight_among : FnScope ["weather", "counts", "stretches", "fallen", "a", "b"] ["weather", "counts", "stretches"] (defScope s_tight_among) := ⟨rfl, rfl, rfl, by decide +kernel, rfl, by decide +kernel, by decide +kernel⟩
abbrev s_tight_stretches : Stmt := top 18
theorem sc_tight_stretches : FnScope ["almanac", "weather"] ["almanac", "weather"] (defScope s_tight_stretches) := ⟨rfl, rfl, rfl, by decide +kernel, rfl, by decide +kernel, by decide +kernel⟩
abbrev s_check : Stmt := top 21
theorem sc_check : FnScope ["what", "number"] ["what", "number"] (defScope s_check) := ⟨rfl, rfl, rfl, by decide +kernel, rfl, by decide +kernel, by decide +kernel⟩
abbrev s_check_each : Stmt := top 22
theorem sc_check_each : FnScope ["what", "numbers", "number"] ["what", "numbers"] (defScope s_check_each) := ⟨rfl, rfl, rfl, by decide +kernel, rfl, by decide +kernel, by decide +kernel⟩
abbrev s_report_ascends : Stmt := top 28
theorem sc_report_ascends : FnScope ["report", "before", "rain", "cans"] ["report"] (defScope s_report_ascends) := ⟨rfl, rfl, rfl, by decide +kernel, rfl, by decide +kernel, by decide +kernel⟩
abbrev s__law_draw_spans : Stmt := top 33
theorem sc__law_draw_spans : FnScope ["stock", "days", "many", "limit", "spans", "total", "turn", "first", "last", "kind", "ways"] ["stock", "days", "many", "limit"] (defScope s__law_draw_spans) := ⟨rfl, rfl, rfl, by decide +kernel, rfl, by decide +kernel, by decide +kernel⟩
abbrev s__law_can_rains : Stmt := top 34
theorem sc__law_can_rains : FnScope ["spans", "span"] ["spans"] (defScope s__law_can_rains) := ⟨rfl, rfl, rfl, by decide +kernel, rfl, by decide +kernel, by decide +kernel⟩
abbrev s__law_draw_weather : Stmt := top 35
theorem sc__law_draw_weather : FnScope ["stock", "days", "spans", "falls", "span", "options"] ["stock", "days", "spans"] (defScope s__law_draw_weather) := ⟨rfl, rfl, rfl, by decide +kernel, rfl, by decide +kernel, by decide +kernel⟩
abbrev s__law_stretches : Stmt := top 36
theorem sc__law_stretches : FnScope ["days", "found", "b", "a"] ["days"] (defScope s__law_stretches) := ⟨rfl, rfl, rfl, by decide +kernel, rfl, by decide +kernel, by decide +kernel⟩
abbrev s__law_spans_in : Stmt := top 37
theorem sc__law_spans_in : FnScope ["spans", "a", "b", "span"] ["spans", "a", "b"] (defScope s__law_spans_in) := ⟨rfl, rfl, rfl, by decide +kernel, rfl, by decide +kernel, by decide +kernel⟩
abbrev s__law_span_table : Stmt := top 38
theorem sc__law_span_table : FnScope ["days", "spans", "table", "a", "b"] ["days", "spans"] (defScope s__law_span_table) := ⟨rfl, rfl, rfl, by decide +kernel, rfl, by decide +kernel, by decide +kernel⟩
abbrev s__law_key_list : Stmt := top 39
theorem sc__law_key_list : FnScope ["days", "table", "found", "a", "b"] ["days", "table"] (defScope s__law_key_list) := ⟨rfl, rfl, rfl, by decide +kernel, rfl, by decide +kernel, by decide +kernel⟩
abbrev s__law_is_tight : Stmt := top 40
theorem sc__law_is_tight : FnScope ["spans", "weather", "a", "b", "day", "fall", "span"] ["spans", "weather", "a", "b"] (defScope s__law_is_tight) := ⟨rfl, rfl, rfl, by decide +kernel, rfl, by decide +kernel, by decide +kernel⟩
abbrev s__law_first_wrong : Stmt := top 41
theorem sc__law_first_wrong : FnScope ["days", "rains", "weather", "gone", "day", "before", "fall", "number", "rain", "at"] ["days", "rains", "weather"] (defScope s__law_first_wrong) := ⟨rfl, rfl, rfl, by decide +kernel, rfl, by decide +kernel, by decide +kernel⟩
abbrev s__law_bent_weather : Stmt := top 42
theorem sc__law_bent_weather : FnScope ["stock", "weather", "report", "bent", "kind", "day", "other", "fall", "place", "at"] ["stock", "weather"] (defScope s__law_bent_weather) := ⟨rfl, rfl, rfl, by decide +kernel, rfl, by decide +kernel, by decide +kernel⟩
abbrev s__law_caught : Stmt := top 43
theorem sc__law_caught : FnScope ["raised", "found"] ["raised"] (defScope s__law_caught) := ⟨rfl, rfl, rfl, by decide +kernel, rfl, by decide +kernel, by decide +kernel⟩
abbrev s__law_spoil : Stmt := top 44
theorem sc__law_spoil : FnScope ["told"] ["told"] (defScope s__law_spoil) := ⟨rfl, rfl, rfl, by decide +kernel, rfl, by decide +kernel, by decide +kernel⟩
abbrev s__law_stock : Stmt := top 45
theorem sc__law_stock : FnScope ["script", "at", "one", "cell", "size", "small"] ["script", "at"] (defScope s__law_stock) := ⟨rfl, rfl, rfl, by decide +kernel, rfl, by decide +kernel, by decide +kernel⟩
abbrev s__law_draw : Stmt := top 46
theorem sc__law_draw : FnScope ["stock", "many", "found"] ["stock", "many"] (defScope s__law_draw) := ⟨rfl, rfl, rfl, by decide +kernel, rfl, by decide +kernel, by decide +kernel⟩
abbrev s__law_matches : Stmt := top 47
theorem sc__law_matches : FnScope ["answer", "due", "key", "at"] ["answer", "due"] (defScope s__law_matches) := ⟨rfl, rfl, rfl, by decide +kernel, rfl, by decide +kernel, by decide +kernel⟩
abbrev s__law_deep : Stmt := top 48
theorem sc__law_deep : FnScope ["thing", "one"] ["thing"] (defScope s__law_deep) := ⟨rfl, rfl, rfl, by decide +kernel, rfl, by decide +kernel, by decide +kernel⟩
abbrev s__law_options : Stmt := top 49
theorem sc__law_options : FnScope ["days", "rain", "thin", "found", "cans", "day", "one"] ["days", "rain", "thin"] (defScope s__law_options) := ⟨rfl, rfl, rfl, by decide +kernel, rfl, by decide +kernel, by decide +kernel⟩
abbrev s__law_weather : Stmt := top 50
theorem sc__law_weather : FnScope ["days", "falls", "day", "reports", "at"] ["days", "falls"] (defScope s__law_weather) := ⟨rfl, rfl, rfl, by decide +kernel, rfl, by decide +kernel, by decide +kernel⟩
abbrev s__law_weathers : Stmt := top 51
theorem sc__law_weathers : FnScope ["days", "rains", "thin", "found", "rain", "more", "falls", "fall"] ["days", "rains", "thin"] (defScope s__law_weathers) := ⟨rfl, rfl, rfl, by decide +kernel, rfl, by decide +kernel, by decide +kernel⟩
abbrev s__law_ask_keys : Stmt := top 52
theorem sc__law_ask_keys : FnScope ["almanac", "raised"] ["almanac"] (defScope s__law_ask_keys) := ⟨rfl, rfl, rfl, by decide +kernel, rfl, by decide +kernel, by decide +kernel⟩
abbrev s__law_ask_tight : Stmt := top 53
theorem sc__law_ask_tight : FnScope ["almanac", "weather", "raised"] ["almanac", "weather"] (defScope s__law_ask_tight) := ⟨rfl, rfl, rfl, by decide +kernel, rfl, by decide +kernel, by decide +kernel⟩
abbrev s__law_tight_right : Stmt := top 54
theorem sc__law_tight_right : FnScope ["almanac", "days", "spans", "weather", "rains", "wrong", "given", "due", "a", "b"] ["almanac", "days", "spans", "weather"] (defScope s__law_tight_right) := ⟨rfl, rfl, rfl, by decide +kernel, rfl, by decide +kernel, by decide +kernel⟩
abbrev s__law_other_rains : Stmt := top 55
theorem sc__law_other_rains : FnScope ["stock", "spans", "rains", "turn", "rows", "row", "cans"] ["stock", "spans"] (defScope s__law_other_rains) := ⟨rfl, rfl, rfl, by decide +kernel, rfl, by decide +kernel, by decide +kernel⟩
abbrev s_law : Stmt := top 56
theorem sc_law : FnScope ["script", "turn", "stock", "great", "days", "spans", "rains", "almanac", "due", "told", "again", "weathers", "weather", "others", "row", "bad"] ["script"] (defScope s_law) := ⟨rfl, rfl, rfl, by decide +kernel, rfl, by decide +kernel, by decide +kernel⟩
abbrev s_TooMany___init__ : Stmt := inClass (top 3) 0
theorem sc_TooMany___init__ : FnScope ["self", "what"] ["self", "what"] (defScope s_TooMany___init__) := ⟨rfl, rfl, rfl, by decide +kernel, rfl, by decide +kernel, by decide +kernel⟩
abbrev s_BadSky___init__ : Stmt := inClass (top 4) 0
theorem sc_BadSky___init__ : FnScope ["self", "row"] ["self", "row"] (defScope s_BadSky___init__) := ⟨rfl, rfl, rfl, by decide +kernel, rfl, by decide +kernel, by decide +kernel⟩
abbrev s_BadWeather___init__ : Stmt := inClass (top 5) 0
theorem sc_BadWeather___init__ : FnScope ["self", "day"] ["self", "day"] (defScope s_BadWeather___init__) := ⟨rfl, rfl, rfl, by decide +kernel, rfl, by decide +kernel, by decide +kernel⟩
abbrev s_Almanac___init__ : Stmt := inClass (top 31) 0
theorem sc_Almanac___init__ : FnScope ["self", "days", "rains", "rain", "at", "first", "last", "least", "most"] ["self", "days", "rains"] (defScope s_Almanac___init__) := ⟨rfl, rfl, rfl, by decide +kernel, rfl, by decide +kernel, by decide +kernel⟩
abbrev s_Almanac_days : Stmt := inClass (top 31) 1
theorem sc_Almanac_days : FnScope ["self"] ["self"] (defScope s_Almanac_days) := ⟨rfl, rfl, rfl, by decide +kernel, rfl, by decide +kernel, by decide +kernel⟩
abbrev s_Almanac_rains : Stmt := inClass (top 31) 2
theorem sc_Almanac_rains : FnScope ["self"] ["self"] (defScope s_Almanac_rains) := ⟨rfl, rfl, rfl, by decide +kernel, rfl, by decide +kernel, by decide +kernel⟩
abbrev s_Almanac_begins : Stmt := inClass (top 31) 7
theorem sc_Almanac_begins : FnScope ["self", "beginning", "fell", "at", "report", "day", "number", "cans", "first", "last", "least", "most", "at_rain", "rain"] ["self", "beginning"] (defScope s_Almanac_begins) := ⟨rfl, rfl, rfl, by decide +kernel, rfl, by decide +kernel, by decide +kernel⟩
def d_check_one_can : He.DefD := ⟨("check_one_can", none), "check_one_can", "check_one_can", defArgs s_check_one_can, defBody s_check_one_can, defScope s_check_one_can, [], []⟩
def d_check_weather : He.DefD := ⟨("check_weather", none), "check_weather", "check_weather", defArgs s_check_weather, defBody s_check_weather, defScope s_check_weather, [], []⟩
def d_all_stretches : He.DefD := ⟨("all_stretches", none), "all_stretches", "all_stretches", defArgs s_all_stretches, defBody s_all_stretches, defScope s_all_stretches, [], []⟩
def d_span_counts : He.DefD := ⟨("span_counts", none), "span_counts", "span_counts", defArgs s_span_counts, defBody s_span_counts, defScope s_span_counts, [], []⟩
def d_fall_counts : He.DefD := ⟨("fall_counts", none), "fall_counts", "fall_counts", defArgs s_fall_counts, defBody s_fall_counts, defScope s_fall_counts, [], []⟩
def d_key_stretches : He.DefD := ⟨("key_stretches", none), "key_stretches", "key_stretches", defArgs s_key_stretches, defBody s_key_stretches, defScope s_key_stretches, [], []⟩
def d_tight_among : He.DefD := ⟨("tight_among", none), "tight_among", "tight_among", defArgs s_tight_among, defBody s_tight_among, defScope s_tight_among, [], []⟩
def d_tight_stretches : He.DefD := ⟨("tight_stretches", none), "tight_stretches", "tight_stretches", defArgs s_tight_stretches, defBody s_tight_stretches, defScope s_tight_stretches, [], []⟩
def d_check : He.DefD := ⟨("check", none), "check", "check", defArgs s_check, defBody s_check, defScope s_check, [], []⟩
def d_check_each : He.DefD := ⟨("check_each", none), "check_each", "check_each", defArgs s_check_each, defBody s_check_each, defScope s_check_each, [], []⟩
def d_report_ascends : He.DefD := ⟨("report_ascends", none), "report_ascends", "report_ascends", defArgs s_report_ascends, defBody s_report_ascends, defScope s_report_ascends, [], []⟩
def d__law_draw_spans : He.DefD := ⟨("_law_draw_spans", none), "_law_draw_spans", "_law_draw_spans", defArgs s__law_draw_spans, defBody s__law_draw_spans, defScope s__law_draw_spans, [], []⟩
def d__law_can_rains : He.DefD := ⟨("_law_can_rains", none), "_law_can_rains", "_law_can_rains", defArgs s__law_can_rains, defBody s__law_can_rains, defScope s__law_can_rains, [], []⟩
def d__law_draw_weather : He.DefD := ⟨("_law_draw_weather", none), "_law_draw_weather", "_law_draw_weather", defArgs s__law_draw_weather, defBody s__law_draw_weather, defScope s__law_draw_weather, [], []⟩
def d__law_stretches : He.DefD := ⟨("_law_stretches", none), "_law_stretches", "_law_stretches", defArgs s__law_stretches, defBody s__law_stretches, defScope s__law_stretches, [], []⟩
def d__law_spans_in : He.DefD := ⟨("_law_spans_in", none), "_law_spans_in", "_law_spans_in", defArgs s__law_spans_in, defBody s__law_spans_in, defScope s__law_spans_in, [], []⟩
def d__law_span_table : He.DefD := ⟨("_law_span_table", none), "_law_span_table", "_law_span_table", defArgs s__law_span_table, defBody s__law_span_table, defScope s__law_span_table, [], []⟩
def d__law_key_list : He.DefD := ⟨("_law_key_list", none), "_law_key_list", "_law_key_list", defArgs s__law_key_list, defBody s__law_key_list, defScope s__law_key_list, [], []⟩
def d__law_is_tight : He.DefD := ⟨("_law_is_tight", none), "_law_is_tight", "_law_is_tight", defArgs s__law_is_tight, defBody s__law_is_tight, defScope s__law_is_tight, [], []⟩
def d__law_first_wrong : He.DefD := ⟨("_law_first_wrong", none), "_law_first_wrong", "_law_first_wrong", defArgs s__law_first_wrong, defBody s__law_first_wrong, defScope s__law_first_wrong, [], []⟩
def d__law_bent_weather : He.DefD := ⟨("_law_bent_weather", none), "_law_bent_weather", "_law_bent_weather", defArgs s__law_bent_weather, defBody s__law_bent_weather, defScope s__law_bent_weather, [], []⟩
def d__law_caught : He.DefD := ⟨("_law_caught", none), "_law_caught", "_law_caught", defArgs s__law_caught, defBody s__law_caught, defScope s__law_caught, [], []⟩
def d__law_spoil : He.DefD := ⟨("_law_spoil", none), "_law_spoil", "_law_spoil", defArgs s__law_spoil, defBody s__law_spoil, defScope s__law_spoil, [], []⟩
def d__law_stock : He.DefD := ⟨("_law_stock", none), "_law_stock", "_law_stock", defArgs s__law_stock, defBody s__law_stock, defScope s__law_stock, [], []⟩
def d__law_draw : He.DefD := ⟨("_law_draw", none), "_law_draw", "_law_draw", defArgs s__law_draw, defBody s__law_draw, defScope s__law_draw, [], []⟩
def d__law_matches : He.DefD := ⟨("_law_matches", none), "_law_matches", "_law_matches", defArgs s__law_matches, defBody s__law_matches, defScope s__law_matches, [], []⟩
def d__law_deep : He.DefD := ⟨("_law_deep", none), "_law_deep", "_law_deep", defArgs s__law_deep, defBody s__law_deep, defScope s__law_deep, [], []⟩
def d__law_options : He.DefD := ⟨("_law_options", none), "_law_options", "_law_options", defArgs s__law_options, defBody s__law_options, defScope s__law_options, [], []⟩
def d__law_weather : He.DefD := ⟨("_law_weather", none), "_law_weather", "_law_weather", defArgs s__law_weather, defBody s__law_weather, defScope s__law_weather, [], []⟩
def d__law_weathers : He.DefD := ⟨("_law_weathers", none), "_law_weathers", "_law_weathers", defArgs s__law_weathers, defBody s__law_weathers, defScope s__law_weathers, [], []⟩
def d__law_ask_keys : He.DefD := ⟨("_law_ask_keys", none), "_law_ask_keys", "_law_ask_keys", defArgs s__law_ask_keys, defBody s__law_ask_keys, defScope s__law_ask_keys, [], []⟩
def d__law_ask_tight : He.DefD := ⟨("_law_ask_tight", none), "_law_ask_tight", "_law_ask_tight", defArgs s__law_ask_tight, defBody s__law_ask_tight, defScope s__law_ask_tight, [], []⟩
def d__law_tight_right : He.DefD := ⟨("_law_tight_right", none), "_law_tight_right", "_law_tight_right", defArgs s__law_tight_right, defBody s__law_tight_right, defScope s__law_tight_right, [], []⟩
def d__law_other_rains : He.DefD := ⟨("_law_other_rains", none), "_law_other_rains", "_law_other_rains", defArgs s__law_other_rains, defBody s__law_other_rains, defScope s__law_other_rains, [], []⟩
def d_law : He.DefD := ⟨("law", none), "law", "law", defArgs s_law, defBody s_law, defScope s_law, [], []⟩
def d_TooMany___init__ : He.DefD := ⟨("TooMany", some "__init__"), "__init__", "TooMany.__init__", defArgs s_TooMany___init__, defBody s_TooMany___init__, defScope s_TooMany___init__, [], []⟩
def d_BadSky___init__ : He.DefD := ⟨("BadSky", some "__init__"), "__init__", "BadSky.__init__", defArgs s_BadSky___init__, defBody s_BadSky___init__, defScope s_BadSky___init__, [], []⟩
def d_BadWeather___init__ : He.DefD := ⟨("BadWeather", some "__init__"), "__init__", "BadWeather.__init__", defArgs s_BadWeather___init__, defBody s_BadWeather___init__, defScope s_BadWeather___init__, [], []⟩
def d_Almanac___init__ : He.DefD := ⟨("Almanac", some "__init__"), "__init__", "Almanac.__init__", defArgs s_Almanac___init__, defBody s_Almanac___init__, defScope s_Almanac___init__, [], []⟩
def d_Almanac_days : He.DefD := ⟨("Almanac", some "days"), "days", "Almanac.days", defArgs s_Almanac_days, defBody s_Almanac_days, defScope s_Almanac_days, [], []⟩
def d_Almanac_rains : He.DefD := ⟨("Almanac", some "rains"), "rains", "Almanac.rains", defArgs s_Almanac_rains, defBody s_Almanac_rains, defScope s_Almanac_rains, [], []⟩
def d_Almanac_begins : He.DefD := ⟨("Almanac", some "begins"), "begins", "Almanac.begins", defArgs s_Almanac_begins, defBody s_Almanac_begins, defScope s_Almanac_begins, [], []⟩
def fn : List He.DefD := [d_check_one_can, d_check_weather, d_all_stretches, d_span_counts, d_fall_counts, d_key_stretches, d_tight_among, d_tight_stretches, d_check, d_check_each, d_report_ascends, d__law_draw_spans, d__law_can_rains, d__law_draw_weather, d__law_stretches, d__law_spans_in, d__law_span_table, d__law_key_list, d__law_is_tight, d__law_first_wrong, d__law_bent_weather, d__law_caught, d__law_spoil, d__law_stock, d__law_draw, d__law_matches, d__law_deep, d__law_options, d__law_weather, d__law_weathers, d__law_ask_keys, d__law_ask_tight, d__law_tight_right, d__law_other_rains, d_law, d_TooMany___init__, d_BadSky___init__, d_BadWeather___init__, d_Almanac___init__, d_Almanac_days, d_Almanac_rains, d_Almanac_begins]
def fa : List He.Fa := [.glo "check_one_can", .glo "check_weather", .glo "all_stretches", .glo "span_counts", .glo "fall_counts", .glo "key_stretches", .glo "tight_among", .glo "tight_stretches", .glo "check", .glo "check_each", .glo "report_ascends", .glo "_law_draw_spans", .glo "_law_can_rains", .glo "_law_draw_weather", .glo "_law_stretches", .glo "_law_spans_in", .glo "_law_span_table", .glo "_law_key_list", .glo "_law_is_tight", .glo "_law_first_wrong", .glo "_law_bent_weather", .glo "_law_caught", .glo "_law_spoil", .glo "_law_stock", .glo "_law_draw", .glo "_law_matches", .glo "_law_deep", .glo "_law_options", .glo "_law_weather", .glo "_law_weathers", .glo "_law_ask_keys", .glo "_law_ask_tight", .glo "_law_tight_right", .glo "_law_other_rains", .glo "law", .glo "SeenError", .glo "TooMany", .glo "BadSky", .glo "BadWeather", .glo "BadTable", .glo "BadSetting", .glo "Almanac", .glo "LIMITS", .free "len", .free "max", .free "min", .free "list", .free "int", .free "abs", .free "sum", .free "isinstance", .free "range", .free "bool", .free "str", .free "dict", .free "tuple", .free "enumerate", .free "set", .free "ValueError", .cls "Almanac", .mkr "Almanac", .noat "Almanac" "days_number", .noat "Almanac" "rains_list", .meth "Almanac" "days", .meth "Almanac" "rains", .meth "Almanac" "begins"]
def tf : List He.Defn := []
def ts : List He.Tab := []
def limits : List (Str × He.Dv) := [("days", .int 24), ("rains", .int 40), ("cans", .int 1000000000000), ("seeds", .int 120), ("weathers", .int 100), ("calls", .int 60), ("price", .int 1000000000000), ("offers", .int 120), ("trials", .int 6), ("lot", .int 14), ("houses", .int 6), ("row", .int 4), ("deeds", .int 120)]
def limKeys : List Str := ["days", "rains", "cans", "seeds", "weathers", "calls", "price", "offers", "trials", "lot", "houses", "row", "deeds"]
def exs (K : PySem.W.Frag) : List Bool := [He.valsB K (He.ga K "LIMITS") limits,
  seB K (He.ga K "SeenError"),
  exTB K (He.ga K "TooMany") (He.ma K (He.ga K "TooMany") "__init__"),
  decide (PySem.W.findIn K (.ref (He.ga K "TooMany")) "what" = some none),
  decide (PySem.W.exmOne K (.ref (He.ga K "TooMany")) (.ref (He.ga K "SeenError")) = some true),
  decide (PySem.W.kitOne K (.ref (He.ga K "TooMany")) (.ref (He.ga K "TooMany")) = some true),
  decide (PySem.W.kitOne K (.ref (He.ga K "TooMany")) (.ref (He.ga K "BadSky")) = some false),
  decide (PySem.W.kitOne K (.ref (He.ga K "TooMany")) (.ref (He.ga K "BadWeather")) = some false),
  decide (PySem.W.kitOne K (.ref (He.ga K "TooMany")) (.ref (He.ga K "BadTable")) = some false),
  decide (PySem.W.kitOne K (.ref (He.ga K "TooMany")) (.ref (He.ga K "BadSetting")) = some false),
  decide (PySem.W.kitOne K (.ref (He.ga K "TooMany")) (.type "ValueError") = some true),
  exTB K (He.ga K "BadSky") (He.ma K (He.ga K "BadSky") "__init__"),
  decide (PySem.W.findIn K (.ref (He.ga K "BadSky")) "row" = some none),
  decide (PySem.W.exmOne K (.ref (He.ga K "BadSky")) (.ref (He.ga K "SeenError")) = some true),
  decide (PySem.W.kitOne K (.ref (He.ga K "BadSky")) (.ref (He.ga K "TooMany")) = some false),
  decide (PySem.W.kitOne K (.ref (He.ga K "BadSky")) (.ref (He.ga K "BadSky")) = some true),
  decide (PySem.W.kitOne K (.ref (He.ga K "BadSky")) (.ref (He.ga K "BadWeather")) = some false),
  decide (PySem.W.kitOne K (.ref (He.ga K "BadSky")) (.ref (He.ga K "BadTable")) = some false),
  decide (PySem.W.kitOne K (.ref (He.ga K "BadSky")) (.ref (He.ga K "BadSetting")) = some false),
  decide (PySem.W.kitOne K (.ref (He.ga K "BadSky")) (.type "ValueError") = some true),
  exTB K (He.ga K "BadWeather") (He.ma K (He.ga K "BadWeather") "__init__"),
  decide (PySem.W.findIn K (.ref (He.ga K "BadWeather")) "day" = some none),
  decide (PySem.W.exmOne K (.ref (He.ga K "BadWeather")) (.ref (He.ga K "SeenError")) = some true),
  decide (PySem.W.kitOne K (.ref (He.ga K "BadWeather")) (.ref (He.ga K "TooMany")) = some false),
  decide (PySem.W.kitOne K (.ref (He.ga K "BadWeather")) (.ref (He.ga K "BadSky")) = some false),
  decide (PySem.W.kitOne K (.ref (He.ga K "BadWeather")) (.ref (He.ga K "BadWeather")) = some true),
  decide (PySem.W.kitOne K (.ref (He.ga K "BadWeather")) (.ref (He.ga K "BadTable")) = some false),
  decide (PySem.W.kitOne K (.ref (He.ga K "BadWeather")) (.ref (He.ga K "BadSetting")) = some false),
  decide (PySem.W.kitOne K (.ref (He.ga K "BadWeather")) (.type "ValueError") = some true),
  decide ((tf.map fun p => (He.cT K p).2).Nodup)]
def ex (K : PySem.W.Frag) : Bool := (exs K).all id
abbrev hk : PySem.W.Hook := He.hookS 5 fa fn [(fun K => He.ga K "LIMITS", limKeys)] tf ex
def ob (s : PySem.W.SharedT) : He.AlX := He.obsS 5 fa fn [(fun K => He.ga K "LIMITS", limKeys)] tf ex (HandSHeadRun.getT s)
theorem ob_eq (s : PySem.W.SharedT) : ob s = hk.obs s.abs := He.obsS_eq (HandSHeadRun.getT_eq s)
/-- what the head tells of the written part -/
structure Txt (w : World) (K : PySem.W.Frag) (mg : Str → Option Value) : Prop where
  ex : ∃ h, K.In h ∧ h.Ns mainGlobals mg ∧ He.SaysX fa fn [(fun K => He.ga K "LIMITS", limKeys)] tf ex w h K
section
variable {w : World} {K : PySem.W.Frag} {mg : Str → Option Value}
theorem Txt.df (T : Txt w K mg) (i j : Nat) {d : He.DefD} (hd : d.dfl = []) (hk : d.kwd = []) (h : fn[i]? = some d) (x : Str) (hx : d.at_ = (x, none)) (hg : fa[j]? = some (.glo x)) : ∃ f fd, FunD K d.name d.qual d.params d.body d.scope [] [] f fd ∧ mg x = some (.ref f) := by
  obtain ⟨h0, X, G, c⟩ := T.ex
  obtain ⟨fd, F⟩ := c.t.d.defs (List.mem_of_getElem? h)
  have e1 : d.dvs K = [] := by unfold He.DefD.dvs; rw [hd]; rfl
  have e2 : d.kws K = [] := by unfold He.DefD.kws; rw [hk]; rfl
  rw [e1, e2, hx] at F
  exact ⟨_, fd, F, He.glo_ok X G (c.t.d.facts (List.mem_of_getElem? hg))⟩
theorem Txt.dm (T : Txt w K mg) (i : Nat) {d : He.DefD} (hd : d.dfl = []) (hk : d.kwd = []) (h : fn[i]? = some d) : ∃ fd, FunD K d.name d.qual d.params d.body d.scope [] [] (He.fAd K d.at_) fd := by
  obtain ⟨h0, X, G, c⟩ := T.ex
  obtain ⟨fd, F⟩ := c.t.d.defs (List.mem_of_getElem? h)
  have e1 : d.dvs K = [] := by unfold He.DefD.dvs; rw [hd]; rfl
  have e2 : d.kws K = [] := by unfold He.DefD.kws; rw [hk]; rfl
  rw [e1, e2] at F
  exact ⟨fd, F⟩
theorem Txt.gl (T : Txt w K mg) (j : Nat) (x : Str) (hg : fa[j]? = some (.glo x)) : mg x = some (.ref (He.ga K x)) := by
  obtain ⟨h0, X, G, c⟩ := T.ex
  exact He.glo_ok X G (c.t.d.facts (List.mem_of_getElem? hg))
theorem Txt.fr (T : Txt w K mg) (j : Nat) (x : Str) (hg : fa[j]? = some (.free x)) : mg x = none := by
  obtain ⟨h0, X, G, c⟩ := T.ex
  exact He.free_ok X G (c.t.d.facts (List.mem_of_getElem? hg))
theorem Txt.fact (T : Txt w K mg) (j : Nat) {f : He.Fa} (hg : fa[j]? = some f) : f.ok K = true := by
  obtain ⟨h0, X, G, c⟩ := T.ex
  exact c.t.d.facts (List.mem_of_getElem? hg)
theorem Txt.x (T : Txt w K mg) (i : Nat) {b : Bool} (h : (exs K)[i]? = some b) : b = true := by
  obtain ⟨h0, X, G, c⟩ := T.ex
  exact List.all_eq_true.mp c.more b (List.mem_of_getElem? h)
theorem f_check_one_can (T : Txt w K mg) : ∃ f fd, FnP K "check_one_can" s_check_one_can f fd ∧ mg "check_one_can" = some (.ref f) := T.df 0 0 (d := d_check_one_can) rfl rfl rfl "check_one_can" rfl rfl
theorem f_check_weather (T : Txt w K mg) : ∃ f fd, FnP K "check_weather" s_check_weather f fd ∧ mg "check_weather" = some (.ref f) := T.df 1 1 (d := d_check_weather) rfl rfl rfl "check_weather" rfl rfl
theorem f_all_stretches (T : Txt w K mg) : ∃ f fd, FnP K "all_stretches" s_all_stretches f fd ∧ mg "all_stretches" = some (.ref f) := T.df 2 2 (d := d_all_stretches) rfl rfl rfl "all_stretches" rfl rfl
theorem f_span_counts (T : Txt w K mg) : ∃ f fd, FnP K "span_counts" s_span_counts f fd ∧ mg "span_counts" = some (.ref f) := T.df 3 3 (d := d_span_counts) rfl rfl rfl "span_counts" rfl rfl
theorem f_fall_counts (T : Txt w K mg) : ∃ f fd, FnP K "fall_counts" s_fall_counts f fd ∧ mg "fall_counts" = some (.ref f) := T.df 4 4 (d := d_fall_counts) rfl rfl rfl "fall_counts" rfl rfl
theorem f_key_stretches (T : Txt w K mg) : ∃ f fd, FnP K "key_stretches" s_key_stretches f fd ∧ mg "key_stretches" = some (.ref f) := T.df 5 5 (d := d_key_stretches) rfl rfl rfl "key_stretches" rfl rfl
theorem f_tight_among (T : Txt w K mg) : ∃ f fd, FnP K "tight_among" s_tight_among f fd ∧ mg "tight_among" = some (.ref f) := T.df 6 6 (d := d_tight_among) rfl rfl rfl "tight_among" rfl rfl
theorem f_tight_stretches (T : Txt w K mg) : ∃ f fd, FnP K "tight_stretches" s_tight_stretches f fd ∧ mg "tight_stretches" = some (.ref f) := T.df 7 7 (d := d_tight_stretches) rfl rfl rfl "tight_stretches" rfl rfl
theorem f_check (T : Txt w K mg) : ∃ f fd, FnP K "check" s_check f fd ∧ mg "check" = some (.ref f) := T.df 8 8 (d := d_check) rfl rfl rfl "check" rfl rfl
theorem f_check_each (T : Txt w K mg) : ∃ f fd, FnP K "check_each" s_check_each f fd ∧ mg "check_each" = some (.ref f) := T.df 9 9 (d := d_check_each) rfl rfl rfl "check_each" rfl rfl
theorem f_report_ascends (T : Txt w K mg) : ∃ f fd, FnP K "report_ascends" s_report_ascends f fd ∧ mg "report_ascends" = some (.ref f) := T.df 10 10 (d := d_report_ascends) rfl rfl rfl "report_ascends" rfl rfl
theorem f__law_draw_spans (T : Txt w K mg) : ∃ f fd, FnP K "_law_draw_spans" s__law_draw_spans f fd ∧ mg "_law_draw_spans" = some (.ref f) := T.df 11 11 (d := d__law_draw_spans) rfl rfl rfl "_law_draw_spans" rfl rfl
theorem f__law_can_rains (T : Txt w K mg) : ∃ f fd, FnP K "_law_can_rains" s__law_can_rains f fd ∧ mg "_law_can_rains" = some (.ref f) := T.df 12 12 (d := d__law_can_rains) rfl rfl rfl "_law_can_rains" rfl rfl
theorem f__law_draw_weather (T : Txt w K mg) : ∃ f fd, FnP K "_law_draw_weather" s__law_draw_weather f fd ∧ mg "_law_draw_weather" = some (.ref f) := T.df 13 13 (d := d__law_draw_weather) rfl rfl rfl "_law_draw_weather" rfl rfl
theorem f__law_stretches (T : Txt w K mg) : ∃ f fd, FnP K "_law_stretches" s__law_stretches f fd ∧ mg "_law_stretches" = some (.ref f) := T.df 14 14 (d := d__law_stretches) rfl rfl rfl "_law_stretches" rfl rfl
theorem f__law_spans_in (T : Txt w K mg) : ∃ f fd, FnP K "_law_spans_in" s__law_spans_in f fd ∧ mg "_law_spans_in" = some (.ref f) := T.df 15 15 (d := d__law_spans_in) rfl rfl rfl "_law_spans_in" rfl rfl
theorem f__law_span_table (T : Txt w K mg) : ∃ f fd, FnP K "_law_span_table" s__law_span_table f fd ∧ mg "_law_span_table" = some (.ref f) := T.df 16 16 (d := d__law_span_table) rfl rfl rfl "_law_span_table" rfl rfl
theorem f__law_key_list (T : Txt w K mg) : ∃ f fd, FnP K "_law_key_list" s__law_key_list f fd ∧ mg "_law_key_list" = some (.ref f) := T.df 17 17 (d := d__law_key_list) rfl rfl rfl "_law_key_list" rfl rfl
theorem f__law_is_tight (T : Txt w K mg) : ∃ f fd, FnP K "_law_is_tight" s__law_is_tight f fd ∧ mg "_law_is_tight" = some (.ref f) := T.df 18 18 (d := d__law_is_tight) rfl rfl rfl "_law_is_tight" rfl rfl
theorem f__law_first_wrong (T : Txt w K mg) : ∃ f fd, FnP K "_law_first_wrong" s__law_first_wrong f fd ∧ mg "_law_first_wrong" = some (.ref f) := T.df 19 19 (d := d__law_first_wrong) rfl rfl rfl "_law_first_wrong" rfl rfl
theorem f__law_bent_weather (T : Txt w K mg) : ∃ f fd, FnP K "_law_bent_weather" s__law_bent_weather f fd ∧ mg "_law_bent_weather" = some (.ref f) := T.df 20 20 (d := d__law_bent_weather) rfl rfl rfl "_law_bent_weather" rfl rfl
theorem f__law_caught (T : Txt w K mg) : ∃ f fd, FnP K "_law_caught" s__law_caught f fd ∧ mg "_law_caught" = some (.ref f) := T.df 21 21 (d := d__law_caught) rfl rfl rfl "_law_caught" rfl rfl
theorem f__law_spoil (T : Txt w K mg) : ∃ f fd, FnP K "_law_spoil" s__law_spoil f fd ∧ mg "_law_spoil" = some (.ref f) := T.df 22 22 (d := d__law_spoil) rfl rfl rfl "_law_spoil" rfl rfl
theorem f__law_stock (T : Txt w K mg) : ∃ f fd, FnP K "_law_stock" s__law_stock f fd ∧ mg "_law_stock" = some (.ref f) := T.df 23 23 (d := d__law_stock) rfl rfl rfl "_law_stock" rfl rfl
theorem f__law_draw (T : Txt w K mg) : ∃ f fd, FnP K "_law_draw" s__law_draw f fd ∧ mg "_law_draw" = some (.ref f) := T.df 24 24 (d := d__law_draw) rfl rfl rfl "_law_draw" rfl rfl
theorem f__law_matches (T : Txt w K mg) : ∃ f fd, FnP K "_law_matches" s__law_matches f fd ∧ mg "_law_matches" = some (.ref f) := T.df 25 25 (d := d__law_matches) rfl rfl rfl "_law_matches" rfl rfl
theorem f__law_deep (T : Txt w K mg) : ∃ f fd, FnP K "_law_deep" s__law_deep f fd ∧ mg "_law_deep" = some (.ref f) := T.df 26 26 (d := d__law_deep) rfl rfl rfl "_law_deep" rfl rfl
theorem f__law_options (T : Txt w K mg) : ∃ f fd, FnP K "_law_options" s__law_options f fd ∧ mg "_law_options" = some (.ref f) := T.df 27 27 (d := d__law_options) rfl rfl rfl "_law_options" rfl rfl
theorem f__law_weather (T : Txt w K mg) : ∃ f fd, FnP K "_law_weather" s__law_weather f fd ∧ mg "_law_weather" = some (.ref f) := T.df 28 28 (d := d__law_weather) rfl rfl rfl "_law_weather" rfl rfl
theorem f__law_weathers (T : Txt w K mg) : ∃ f fd, FnP K "_law_weathers" s__law_weathers f fd ∧ mg "_law_weathers" = some (.ref f) := T.df 29 29 (d := d__law_weathers) rfl rfl rfl "_law_weathers" rfl rfl
theorem f__law_ask_keys (T : Txt w K mg) : ∃ f fd, FnP K "_law_ask_keys" s__law_ask_keys f fd ∧ mg "_law_ask_keys" = some (.ref f) := T.df 30 30 (d := d__law_ask_keys) rfl rfl rfl "_law_ask_keys" rfl rfl
theorem f__law_ask_tight (T : Txt w K mg) : ∃ f fd, FnP K "_law_ask_tight" s__law_ask_tight f fd ∧ mg "_law_ask_tight" = some (.ref f) := T.df 31 31 (d := d__law_ask_tight) rfl rfl rfl "_law_ask_tight" rfl rfl
theorem f__law_tight_right (T : Txt w K mg) : ∃ f fd, FnP K "_law_tight_right" s__law_tight_right f fd ∧ mg "_law_tight_right" = some (.ref f) := T.df 32 32 (d := d__law_tight_right) rfl rfl rfl "_law_tight_right" rfl rfl
theorem f__law_other_rains (T : Txt w K mg) : ∃ f fd, FnP K "_law_other_rains" s__law_other_rains f fd ∧ mg "_law_other_rains" = some (.ref f) := T.df 33 33 (d := d__law_other_rains) rfl rfl rfl "_law_other_rains" rfl rfl
theorem f_law (T : Txt w K mg) : ∃ f fd, FnP K "law" s_law f fd ∧ mg "law" = some (.ref f) := T.df 34 34 (d := d_law) rfl rfl rfl "law" rfl rfl
theorem fi_TooMany (T : Txt w K mg) : ∃ fd, FnM K "__init__" "TooMany.__init__" s_TooMany___init__ (He.ma K (He.ga K "TooMany") "__init__") fd := T.dm 35 (d := d_TooMany___init__) rfl rfl rfl
theorem fi_BadSky (T : Txt w K mg) : ∃ fd, FnM K "__init__" "BadSky.__init__" s_BadSky___init__ (He.ma K (He.ga K "BadSky") "__init__") fd := T.dm 36 (d := d_BadSky___init__) rfl rfl rfl
theorem fi_BadWeather (T : Txt w K mg) : ∃ fd, FnM K "__init__" "BadWeather.__init__" s_BadWeather___init__ (He.ma K (He.ga K "BadWeather") "__init__") fd := T.dm 37 (d := d_BadWeather___init__) rfl rfl rfl
theorem fm_Almanac___init__ (T : Txt w K mg) : ∃ fd, FnM K "__init__" "Almanac.__init__" s_Almanac___init__ (He.ma K (He.ga K "Almanac") "__init__") fd := T.dm 38 (d := d_Almanac___init__) rfl rfl rfl
theorem fm_Almanac_days (T : Txt w K mg) : ∃ fd, FnM K "days" "Almanac.days" s_Almanac_days (He.ma K (He.ga K "Almanac") "days") fd := T.dm 39 (d := d_Almanac_days) rfl rfl rfl
theorem fm_Almanac_rains (T : Txt w K mg) : ∃ fd, FnM K "rains" "Almanac.rains" s_Almanac_rains (He.ma K (He.ga K "Almanac") "rains") fd := T.dm 40 (d := d_Almanac_rains) rfl rfl rfl
theorem fm_Almanac_begins (T : Txt w K mg) : ∃ fd, FnM K "begins" "Almanac.begins" s_Almanac_begins (He.ma K (He.ga K "Almanac") "begins") fd := T.dm 41 (d := d_Almanac_begins) rfl rfl rfl
theorem g_SeenError (T : Txt w K mg) : mg "SeenError" = some (.ref (He.ga K "SeenError")) := T.gl 35 "SeenError" rfl
theorem g_TooMany (T : Txt w K mg) : mg "TooMany" = some (.ref (He.ga K "TooMany")) := T.gl 36 "TooMany" rfl
theorem g_BadSky (T : Txt w K mg) : mg "BadSky" = some (.ref (He.ga K "BadSky")) := T.gl 37 "BadSky" rfl
theorem g_BadWeather (T : Txt w K mg) : mg "BadWeather" = some (.ref (He.ga K "BadWeather")) := T.gl 38 "BadWeather" rfl
theorem g_BadTable (T : Txt w K mg) : mg "BadTable" = some (.ref (He.ga K "BadTable")) := T.gl 39 "BadTable" rfl
theorem g_BadSetting (T : Txt w K mg) : mg "BadSetting" = some (.ref (He.ga K "BadSetting")) := T.gl 40 "BadSetting" rfl
theorem g_Almanac (T : Txt w K mg) : mg "Almanac" = some (.ref (He.ga K "Almanac")) := T.gl 41 "Almanac" rfl
theorem g_LIMITS (T : Txt w K mg) : mg "LIMITS" = some (.ref (He.ga K "LIMITS")) := T.gl 42 "LIMITS" rfl
theorem n_len (T : Txt w K mg) : mg "len" = none := T.fr 43 "len" rfl
theorem n_max (T : Txt w K mg) : mg "max" = none := T.fr 44 "max" rfl
theorem n_min (T : Txt w K mg) : mg "min" = none := T.fr 45 "min" rfl
theorem n_list (T : Txt w K mg) : mg "list" = none := T.fr 46 "list" rfl
theorem n_int (T : Txt w K mg) : mg "int" = none := T.fr 47 "int" rfl
theorem n_abs (T : Txt w K mg) : mg "abs" = none := T.fr 48 "abs" rfl
theorem n_sum (T : Txt w K mg) : mg "sum" = none := T.fr 49 "sum" rfl
theorem n_isinstance (T : Txt w K mg) : mg "isinstance" = none := T.fr 50 "isinstance" rfl
theorem n_range (T : Txt w K mg) : mg "range" = none := T.fr 51 "range" rfl
theorem n_bool (T : Txt w K mg) : mg "bool" = none := T.fr 52 "bool" rfl
theorem n_str (T : Txt w K mg) : mg "str" = none := T.fr 53 "str" rfl
theorem n_dict (T : Txt w K mg) : mg "dict" = none := T.fr 54 "dict" rfl
theorem n_tuple (T : Txt w K mg) : mg "tuple" = none := T.fr 55 "tuple" rfl
theorem n_enumerate (T : Txt w K mg) : mg "enumerate" = none := T.fr 56 "enumerate" rfl
theorem n_set (T : Txt w K mg) : mg "set" = none := T.fr 57 "set" rfl
theorem n_ValueError (T : Txt w K mg) : mg "ValueError" = none := T.fr 58 "ValueError" rfl
theorem cl_Almanac (T : Txt w K mg) : Cls K (He.ga K "Almanac") := He.cls_ok (T.fact 59 rfl)
theorem mk_Almanac (T : Txt w K mg) : Mk K (He.ga K "Almanac") (He.ma K (He.ga K "Almanac") "__init__") := He.mkr_ok (T.fact 60 rfl)
theorem na_Almanac_days_number (T : Txt w K mg) : NoAttr K (He.ga K "Almanac") "days_number" := He.noat_ok (T.fact 61 rfl)
theorem na_Almanac_rains_list (T : Txt w K mg) : NoAttr K (He.ga K "Almanac") "rains_list" := He.noat_ok (T.fact 62 rfl)
theorem me_Almanac_days (T : Txt w K mg) : Meth K (He.ga K "Almanac") "days" (He.ma K (He.ga K "Almanac") "days") := He.meth_ok (T.fact 63 rfl)
theorem me_Almanac_rains (T : Txt w K mg) : Meth K (He.ga K "Almanac") "rains" (He.ma K (He.ga K "Almanac") "rains") := He.meth_ok (T.fact 64 rfl)
theorem me_Almanac_begins (T : Txt w K mg) : Meth K (He.ga K "Almanac") "begins" (He.ma K (He.ga K "Almanac") "begins") := He.meth_ok (T.fact 65 rfl)
theorem lim (T : Txt w K mg) {z : Str} {n : Int} (hz : (z, He.Dv.int n) ∈ limits) : KDct K w (He.ga K "LIMITS") z (.int n) := by
  have hv := T.x 0 rfl
  obtain ⟨h0, X, G, c⟩ := T.ex
  obtain ⟨es, m, hl, hk, hs⟩ := c.t.tab 0 rfl
  obtain ⟨u, hu, hr⟩ := He.valsB_ok hv hz
  exact ⟨es, m, u, hl, hk, hu, hr⟩
theorem se (T : Txt w K mg) : SeTxt K (He.ga K "SeenError") := seB_ok (T.x 1 rfl)
theorem xt_TooMany (T : Txt w K mg) : ExT K (He.ga K "TooMany") (He.ma K (He.ga K "TooMany") "__init__") := exTB_ok (T.x 2 rfl)
theorem xn_TooMany_what (T : Txt w K mg) : PySem.W.findIn K (.ref (He.ga K "TooMany")) "what" = some none := of_decide_eq_true (T.x 3 rfl)
theorem xs_TooMany (T : Txt w K mg) : PySem.W.exmOne K (.ref (He.ga K "TooMany")) (.ref (He.ga K "SeenError")) = some true := of_decide_eq_true (T.x 4 rfl)
theorem xk_TooMany_TooMany (T : Txt w K mg) : PySem.W.kitOne K (.ref (He.ga K "TooMany")) (.ref (He.ga K "TooMany")) = some true := of_decide_eq_true (T.x 5 rfl)
theorem xk_TooMany_BadSky (T : Txt w K mg) : PySem.W.kitOne K (.ref (He.ga K "TooMany")) (.ref (He.ga K "BadSky")) = some false := of_decide_eq_true (T.x 6 rfl)
theorem xk_TooMany_BadWeather (T : Txt w K mg) : PySem.W.kitOne K (.ref (He.ga K "TooMany")) (.ref (He.ga K "BadWeather")) = some false := of_decide_eq_true (T.x 7 rfl)
theorem xk_TooMany_BadTable (T : Txt w K mg) : PySem.W.kitOne K (.ref (He.ga K "TooMany")) (.ref (He.ga K "BadTable")) = some false := of_decide_eq_true (T.x 8 rfl)
theorem xk_TooMany_BadSetting (T : Txt w K mg) : PySem.W.kitOne K (.ref (He.ga K "TooMany")) (.ref (He.ga K "BadSetting")) = some false := of_decide_eq_true (T.x 9 rfl)
theorem xv_TooMany (T : Txt w K mg) : PySem.W.kitOne K (.ref (He.ga K "TooMany")) (.type "ValueError") = some true := of_decide_eq_true (T.x 10 rfl)
theorem xt_BadSky (T : Txt w K mg) : ExT K (He.ga K "BadSky") (He.ma K (He.ga K "BadSky") "__init__") := exTB_ok (T.x 11 rfl)
theorem xn_BadSky_row (T : Txt w K mg) : PySem.W.findIn K (.ref (He.ga K "BadSky")) "row" = some none := of_decide_eq_true (T.x 12 rfl)
theorem xs_BadSky (T : Txt w K mg) : PySem.W.exmOne K (.ref (He.ga K "BadSky")) (.ref (He.ga K "SeenError")) = some true := of_decide_eq_true (T.x 13 rfl)
theorem xk_BadSky_TooMany (T : Txt w K mg) : PySem.W.kitOne K (.ref (He.ga K "BadSky")) (.ref (He.ga K "TooMany")) = some false := of_decide_eq_true (T.x 14 rfl)
theorem xk_BadSky_BadSky (T : Txt w K mg) : PySem.W.kitOne K (.ref (He.ga K "BadSky")) (.ref (He.ga K "BadSky")) = some true := of_decide_eq_true (T.x 15 rfl)
theorem xk_BadSky_BadWeather (T : Txt w K mg) : PySem.W.kitOne K (.ref (He.ga K "BadSky")) (.ref (He.ga K "BadWeather")) = some false := of_decide_eq_true (T.x 16 rfl)
theorem xk_BadSky_BadTable (T : Txt w K mg) : PySem.W.kitOne K (.ref (He.ga K "BadSky")) (.ref (He.ga K "BadTable")) = some false := of_decide_eq_true (T.x 17 rfl)
theorem xk_BadSky_BadSetting (T : Txt w K mg) : PySem.W.kitOne K (.ref (He.ga K "BadSky")) (.ref (He.ga K "BadSetting")) = some false := of_decide_eq_true (T.x 18 rfl)
theorem xv_BadSky (T : Txt w K mg) : PySem.W.kitOne K (.ref (He.ga K "BadSky")) (.type "ValueError") = some true := of_decide_eq_true (T.x 19 rfl)
theorem xt_BadWeather (T : Txt w K mg) : ExT K (He.ga K "BadWeather") (He.ma K (He.ga K "BadWeather") "__init__") := exTB_ok (T.x 20 rfl)
theorem xn_BadWeather_day (T : Txt w K mg) : PySem.W.findIn K (.ref (He.ga K "BadWeather")) "day" = some none := of_decide_eq_true (T.x 21 rfl)
theorem xs_BadWeather (T : Txt w K mg) : PySem.W.exmOne K (.ref (He.ga K "BadWeather")) (.ref (He.ga K "SeenError")) = some true := of_decide_eq_true (T.x 22 rfl)
theorem xk_BadWeather_TooMany (T : Txt w K mg) : PySem.W.kitOne K (.ref (He.ga K "BadWeather")) (.ref (He.ga K "TooMany")) = some false := of_decide_eq_true (T.x 23 rfl)
theorem xk_BadWeather_BadSky (T : Txt w K mg) : PySem.W.kitOne K (.ref (He.ga K "BadWeather")) (.ref (He.ga K "BadSky")) = some false := of_decide_eq_true (T.x 24 rfl)
theorem xk_BadWeather_BadWeather (T : Txt w K mg) : PySem.W.kitOne K (.ref (He.ga K "BadWeather")) (.ref (He.ga K "BadWeather")) = some true := of_decide_eq_true (T.x 25 rfl)
theorem xk_BadWeather_BadTable (T : Txt w K mg) : PySem.W.kitOne K (.ref (He.ga K "BadWeather")) (.ref (He.ga K "BadTable")) = some false := of_decide_eq_true (T.x 26 rfl)
theorem xk_BadWeather_BadSetting (T : Txt w K mg) : PySem.W.kitOne K (.ref (He.ga K "BadWeather")) (.ref (He.ga K "BadSetting")) = some false := of_decide_eq_true (T.x 27 rfl)
theorem xv_BadWeather (T : Txt w K mg) : PySem.W.kitOne K (.ref (He.ga K "BadWeather")) (.type "ValueError") = some true := of_decide_eq_true (T.x 28 rfl)
theorem tabs_nodup (T : Txt w K mg) : (tf.map fun p => (He.cT K p).2).Nodup := of_decide_eq_true (T.x 29 rfl)
theorem Txt.dl (T : Txt w K mg) (i j : Nat) {d : He.DefD} (hd : d.dfl = []) (hk : d.kwd = []) (h : fn[i]? = some d) (x : Str) (hx : d.at_ = (x, none)) (hg : fa[j]? = some (.glo x)) : ∃ f fd, FunD K d.name d.qual d.params d.body d.scope [] [] f fd ∧ mg x = some (.ref f) ∧ fd.code = .ref (He.codeOf K (x, none)) := by
  obtain ⟨h0, X, G, c⟩ := T.ex
  obtain ⟨fd, F⟩ := c.t.d.defs (List.mem_of_getElem? h)
  have e1 : d.dvs K = [] := by unfold He.DefD.dvs; rw [hd]; rfl
  have e2 : d.kws K = [] := by unfold He.DefD.kws; rw [hk]; rfl
  rw [e1, e2, hx] at F
  refine ⟨_, fd, F, He.glo_ok X G (c.t.d.facts (List.mem_of_getElem? hg)), ?_⟩
  obtain ⟨oc, od, dV, kV, doc, pm, an, cdv, ct, osl, e, lk, hcd, _, _⟩ := F.ex
  have e3 : fd.code = cdv := by rw [e]
  rw [e3]
  cases cdv with
  | ref a => rw [He.codeOf_eq lk e3]
  | _ => cases hcd
end
end K26
end
section
set_option maxRecDepth 100000
set_option maxHeartbeats 0
namespace K26
open PySem PySem.W PySem.Calls PySem.Spec PyProof.Rows L2
abbrev R : PySem.W.OpenRow := PySem.W.OpenLaw.row PySem.Challenge.rw_seenenough_k26_key_and_tight_stretches
def loose1 : List PySem.Str := (["_wall", "SeenError", "TooMany", "BadSky", "BadWeather", "BadReport", "BadSetting", "BadTable", "BadDay", "check_one_can", "check_weather", "all_stretches", "span_counts", "fall_counts", "key_stretches", "tight_among", "tight_stretches", "LIMITS"] : List PySem.Str)
def loose2 : List PySem.Str := (["check", "check_each", "check_within", "check_day", "fallen_row", "reports_of", "report_ascends", "LISTED", "Almanac", "_law_draw_spans", "_law_can_rains", "_law_draw_weather", "_law_stretches", "_law_spans_in", "_law_span_table", "_law_key_list", "_law_is_tight", "_law_first_wrong", "_law_bent_weather", "_law_caught", "_law_spoil", "_law_stock", "_law_draw", "_law_matches", "_law_deep"] : List PySem.Str) ++ (["_law_options", "_law_weather", "_law_weathers", "_law_ask_keys", "_law_ask_tight", "_law_tight_right", "_law_other_rains"] : List PySem.Str)
theorem runF (w : World) : HandSHeadRun.RunEq R (PySem.W.view R.prog [56]) hk ob 20000 (loose1 ++ loose2) (w.withFollow "special-get-raises" false) := by
  intro os
  kernel_rfl
theorem runT (w : World) : HandSHeadRun.RunEq R (PySem.W.view R.prog [56]) hk ob 20000 (loose1 ++ loose2) (w.withFollow "special-get-raises" true) := by
  intro os
  kernel_rfl
theorem run (w : World) : HandSHeadRun.RunEq R (PySem.W.view R.prog [56]) hk ob 20000 (loose1 ++ loose2) w :=
  byRow2 "special-get-raises" (P := fun w => HandSHeadRun.RunEq R (PySem.W.view R.prog [56]) hk ob 20000 (loose1 ++ loose2) w) runF runT w
end K26
end
section
set_option maxRecDepth 100000
set_option maxHeartbeats 4000000
namespace L2
open PySem PySem.Spec PyProof.Rows
/-! ### heaps that grow -/
theorem same_new {H : Hp} {p : Addr} {o : HO} (h : H p = none) : Same H (upd H p o) := fun b u e => by
  rw [upd_ne (ne_of_none e h)]
  exact e
theorem same_mut {H H' : Hp} {p : Addr} {o : HO} (e : Same H H') (h : H p = none) : Same H (upd H' p o) := fun b u hb => by
  rw [upd_ne (ne_of_none hb h)]
  exact e b u hb
theorem Same.tup {K : PySem.W.Frag} {H H' : Hp} {a : Addr} {xs : List V} (e : Same H H') (h : SqT K H a xs) : SqT K H' a xs := by
  rcases h with (h | ⟨o, h⟩) | h
  · exact .inl (.inl (e _ _ h))
  · exact .inl (.inr ⟨o, e _ _ h⟩)
  · exact .inr h
/-- a new object: the heap behind it as a letter -/
theorem newly {H : Hp} {o : HO} {Q : Addr → Hp → Prop} (h : ∀ p H', H p = none → Same H H' → H' p = some o → (∀ b, b ≠ p → H' b = H b) → Q p H') : ∀ p, H p = none → Q p (upd H p o) :=
  fun p hp => h p _ hp (same_new hp) upd_same fun b hb => upd_ne hb
/-- all but what stands at a is as it was -/
def But (a : Addr) (H H' : Hp) : Prop := ∀ b o, H b = some o → b ≠ a → H' b = some o
theorem But.refl (a : Addr) (H : Hp) : But a H H := fun _ _ h _ => h
theorem But.of {a : Addr} {H H' : Hp} (e : Same H H') : But a H H' := fun b o h _ => e b o h
theorem But.trans {a : Addr} {H H1 H2 : Hp} (e : But a H H1) (f : But a H1 H2) : But a H H2 := fun b o h n => f b o (e b o h n) n
theorem But.upd {a : Addr} {H H' : Hp} {o : HO} (e : But a H H') : But a H (upd H' a o) := fun b u h n => by
  rw [upd_ne n]
  exact e b u h n
theorem But.mut {a p : Addr} {H H' : Hp} {o : HO} (e : But a H H') (h : H p = none) : But a H (L2.upd H' p o) := fun b u hb n => by
  rw [upd_ne (ne_of_none hb h)]
  exact e b u hb n
theorem But.free {a : Addr} {H H' : Hp} (e : But a H H') (ha : H' a ≠ none) {l : Addr} (h : H' l = none) : H l = none := by
  cases q : H l with
  | none => rfl
  | some o =>
    by_cases hl : l = a
    · rw [hl] at h
      exact absurd h ha
    · rw [e l o q hl] at h
      cases h
theorem lst_ne {H : Hp} {a : Addr} {o : HO} {K : PySem.W.Frag} (x : H a = some o) : H a ≠ none := by rw [x]; exact fun z => by cases z
/-! ### an own exception raised -/
def spInit (C : Addr) (f : Str) : Sp := fun vs H Q _ => ∃ (a : Addr) (v : V), vs = [.ref a, v] ∧ H a = some (exo a C none) ∧
  ∀ dx, H dx = none → dx ≠ a → Q .non (upd (upd H dx (exd dx [(f, v)])) a (exo a C (some dx)))
theorem mko {C : Addr} {f : Str} {v : V} {H : Hp} {Q : XK} (h : ∀ d, H d = none → Q (.ref C) (some d) (upd H d (.xd [(f, v)]))) : ([v] : List V).length ≤ 1000 ∧ ∀ a, H a = none → spInit C f (.ref a :: ([v] ++ [])) (upd H a (exo a C none))
    (fun u H2 => u = .non ∧ ∃ (d : Addr) (fs : List (Str × V)), H2 a = some (exo a C (some d)) ∧ H2 d = some (exd d fs) ∧ H d = none ∧ Q (.ref C) (some d) (upd (del H2 a) d (.xd fs))) (fun _ _ _ => False) := by
  refine ⟨by show 1 ≤ 1000; decide, fun a ha => ⟨a, v, rfl, upd_same, fun dx hd hne => ⟨rfl, dx, [(f, v)], upd_same, by rw [upd_ne hne, upd_same], ?_, ?_⟩⟩⟩
  · rw [upd_ne hne] at hd
    exact hd
  · have hd' : H dx = none := by rw [upd_ne hne] at hd; exact hd
    have e : upd (del (upd (upd (upd H a (exo a C none)) dx (exd dx [(f, v)])) a (exo a C (some dx))) a) dx (.xd [(f, v)]) = upd H dx (.xd [(f, v)]) := by
      funext b
      by_cases hb : b = dx
      · rw [hb, upd_same, upd_same]
      · rw [upd_ne hb, upd_ne hb]
        by_cases hba : b = a
        · rw [hba, del_same, ha]
        · rw [del_ne hba, upd_ne hba, upd_ne hb, upd_ne hba]
    rw [e]
    exact h dx hd'
/-- E is told of an error of the class at C whose field f is v -/
def Rz (E : XK) (H : Hp) (C : Addr) (f : Str) (v : V) : Prop := ∀ d H', Same H H' → H' d = some (.xd [(f, v)]) → E (.ref C) (some d) H'
theorem Rz.at {E : XK} {H H1 : Hp} {C : Addr} {f : Str} {v : V} (r : Rz E H C f v) (e : Same H H1) : ∀ d, H1 d = none → E (.ref C) (some d) (upd H1 d (.xd [(f, v)])) := fun d hd => r d _ (e.trans (same_new hd)) upd_same
/-! ### statement by statement -/
theorem nxE {t : St → Hp → Prop} {r : VK} {b c : St → Hp → Prop} {σ : St} {H : Hp} (h : t σ H) : Ends.nx ⟨t, r, b, c⟩ σ H := h
/-- x = e, then the rest -/
theorem st_let {te : TE} {i : Nat} {t2 : TS} {D : Ends} {σ : St} {H : Hp} (PV : V → Hp → Prop) (h : ∀ R : VK, (∀ v H', PV v H' → R v H') → te σ H R) (q : ∀ v H', PV v H' → t2 D (σ.set i (some v)) H') : tSeq (tAsg te (gName i)) t2 D σ H := h _ q
/-! ### numbers -/
theorem ints_get {ns : List Int} {i : Nat} {x : V} (h : (ns.map V.int)[i]? = some x) : ∃ z, ns[i]? = some z ∧ x = V.int z := by
  rw [List.getElem?_map] at h
  cases e : ns[i]? with
  | none => rw [e] at h; cases h
  | some z => rw [e] at h; exact ⟨z, rfl, (Option.some.inj h).symm⟩
theorem ints_at {ns : List Int} {i : Nat} {z : Int} (h : ns[i]? = some z) : (ns.map V.int)[i]? = some (.int z) := by rw [List.getElem?_map, h]; rfl
theorem ints_len (ns : List Int) : (ns.map V.int).length = ns.length := List.length_map _
/-- an item by an int -/
theorem atI_int {α : Type} {xs : List α} {z : Int} {v : α} (h0 : 0 ≤ z) (h : xs[z.toNat]? = some v) : atI xs z = some v := by
  have e : z = ((z.toNat : Nat) : Int) := by omega
  rw [e]
  exact atI_nat h
theorem line_of {n : Nat} (h : n ≤ 100000) : n ≤ sizeLine := Nat.le_trans h (by decide)
theorem line_lt {n : Nat} (h : n < 100000) : n < sizeLine := Nat.lt_of_lt_of_le h (by decide)
end L2
end
section
set_option maxRecDepth 100000
set_option maxHeartbeats 4000000
namespace L2
open PySem PySem.Spec PyProof.Rows
/-! ### comprehensions by what is made so far -/
section
variable {K : PySem.W.Frag} {a D : Addr} {xs : List V} {g : TG} {tt : TT} {te : TE} {vs : List Nat} {σ : St} {H1 : Hp} {Q : Hp → Prop}
theorem lc_acc (hD : H1 D = none) (hS : SqL K H1 a xs) (hz : xs.length < 100000) (Acc : Nat → List V → Hp → Prop) (h0 : ∀ H', Same H1 H' → Acc 0 [] H')
    (hs : ∀ i x acc H' (N : V → Hp → Prop) (N0 : Hp → Prop), xs[i]? = some x → Same H1 H' → H' D = some (.lst acc) → Acc i acc H' →
      (∀ y H4, Same H' H4 → (∀ H5, But D H4 H5 → H5 D = some (.lst (acc ++ [y])) → Acc (i + 1) (acc ++ [y]) H5) → N y H4) → (∀ H3, Same H' H3 → Acc (i + 1) acc H3 → N0 H3) →
      g x (wipe σ vs) H' fun σ2 H2 => wipe σ2 vs = wipe σ vs ∧ tt σ2 H2 fun b H3 => if b = true then te σ2 H3 N else N0 H3)
    (hd : ∀ acc H', Same H1 H' → H' D = some (.lst acc) → acc.length ≤ xs.length → Acc xs.length acc H' → Q H') :
    ∃ W : Nat → Nat → Hp → Prop, (∃ m, W 0 m (upd H1 D (.lst []))) ∧ ∀ i m H, W i m H →
      ((Itl K a).stop i H ∧ Q H) ∨ ((Itl K a).go i H ∧ ∃ Nx : Hp → Prop, (∀ H', Nx H' → ∃ m', m' < m ∧ W (i + 1) m' H') ∧ ∀ x H', (Itl K a).yld i H x H' → g x (wipe σ vs) H' fun σ2 H2 => wipe σ2 vs = wipe σ vs ∧ tt σ2 H2 fun b H3 =>
        if b = true then te σ2 H3 fun y H4 => ∃ acc, H4 D = some (.lst acc) ∧ acc.length < sizeLine ∧ Nx (upd H4 D (.lst (acc ++ [y]))) else Nx H3) := by
  refine lc_list (K := K) (a := a) (xs := xs) (fun i H' => Same H1 H' ∧ ∃ acc, H' D = some (.lst acc) ∧ acc.length ≤ i ∧ Acc i acc H') ⟨same_new hD, [], upd_same, Nat.le_refl _, h0 _ (same_new hD)⟩ (fun i H' _ h => h.1.seq hS) ?_ ?_
  · rintro i x H' hx ⟨e, acc, hacc, hl, ha⟩
    have hi : i < xs.length := (List.getElem?_eq_some_iff.mp hx).1
    refine hs i x acc H' _ _ hx e hacc ha (fun y H4 s4 a4 => ?_) (fun H3 s3 a3 => ?_)
    · exact ⟨acc, s4 _ _ hacc, line_lt (by omega), same_mut (e.trans s4) hD, acc ++ [y], upd_same, by rw [List.length_append]; exact Nat.succ_le_succ hl, a4 _ (fun b o hb n => by rw [upd_ne n]; exact hb) upd_same⟩
    · exact ⟨e.trans s3, acc, s3 _ _ hacc, Nat.le_succ_of_le hl, a3⟩
  · rintro H' ⟨e, acc, hacc, hl, ha⟩
    exact hd acc H' e hacc hl ha
theorem lc_accR {lo : Int} {n : Nat} (hD : H1 D = none) (hz : n < 100000) (Acc : Nat → List V → Hp → Prop) (h0 : ∀ H', Same H1 H' → Acc 0 [] H')
    (hs : ∀ i acc H' (N : V → Hp → Prop) (N0 : Hp → Prop), i < n → Same H1 H' → H' D = some (.lst acc) → Acc i acc H' →
      (∀ y H4, Same H' H4 → (∀ H5, But D H4 H5 → H5 D = some (.lst (acc ++ [y])) → Acc (i + 1) (acc ++ [y]) H5) → N y H4) → (∀ H3, Same H' H3 → Acc (i + 1) acc H3 → N0 H3) →
      g (.int (lo + i)) (wipe σ vs) H' fun σ2 H2 => wipe σ2 vs = wipe σ vs ∧ tt σ2 H2 fun b H3 => if b = true then te σ2 H3 N else N0 H3)
    (hd : ∀ acc H', Same H1 H' → H' D = some (.lst acc) → acc.length ≤ n → Acc n acc H' → Q H') :
    ∃ W : Nat → Nat → Hp → Prop, (∃ m, W 0 m (upd H1 D (.lst []))) ∧ ∀ i m H, W i m H →
      ((Itr lo n).stop i H ∧ Q H) ∨ ((Itr lo n).go i H ∧ ∃ Nx : Hp → Prop, (∀ H', Nx H' → ∃ m', m' < m ∧ W (i + 1) m' H') ∧ ∀ x H', (Itr lo n).yld i H x H' → g x (wipe σ vs) H' fun σ2 H2 => wipe σ2 vs = wipe σ vs ∧ tt σ2 H2 fun b H3 =>
        if b = true then te σ2 H3 fun y H4 => ∃ acc, H4 D = some (.lst acc) ∧ acc.length < sizeLine ∧ Nx (upd H4 D (.lst (acc ++ [y]))) else Nx H3) := by
  refine lc_range (lo := lo) (n := n) (fun i H' => Same H1 H' ∧ ∃ acc, H' D = some (.lst acc) ∧ acc.length ≤ i ∧ Acc i acc H') ⟨same_new hD, [], upd_same, Nat.le_refl _, h0 _ (same_new hD)⟩ ?_ ?_
  · rintro i H' hi ⟨e, acc, hacc, hl, ha⟩
    refine hs i acc H' _ _ hi e hacc ha (fun y H4 s4 a4 => ?_) (fun H3 s3 a3 => ?_)
    · exact ⟨acc, s4 _ _ hacc, line_lt (by omega), same_mut (e.trans s4) hD, acc ++ [y], upd_same, by rw [List.length_append]; exact Nat.succ_le_succ hl, a4 _ (fun b o hb n => by rw [upd_ne n]; exact hb) upd_same⟩
    · exact ⟨e.trans s3, acc, s3 _ _ hacc, Nat.le_succ_of_le hl, a3⟩
  · rintro H' ⟨e, acc, hacc, hl, ha⟩
    exact hd acc H' e hacc hl ha
end
theorem cutV_map {α : Type} (f : α → V) (ns : List α) (lo hi : Option Int) : ∃ ms : List α, cutV (ns.map f) lo hi = ms.map f ∧ ms = (ns.drop (HT.sIx ns.length 0 lo)).take (HT.sIx ns.length ns.length hi - HT.sIx ns.length 0 lo) := by
  refine ⟨_, ?_, rfl⟩
  unfold cutV
  rw [List.length_map, List.map_take, List.map_drop]
end L2
end
section
set_option maxRecDepth 100000
set_option maxHeartbeats 4000000
namespace L2
open PySem PySem.Spec PyProof.Rows
/-- for i, x in enumerate(list, start = k) -/
theorem for_enumS {K : PySem.W.Frag} {a : Addr} {xs : List V} {k : Int} {g : TG} {tb : TS} {D : Ends} {σ : St} {H : Hp} (Pv : Nat → St → Hp → Prop) (h0 : Pv 0 σ H) (hl : ∀ i σ H, i ≤ xs.length → Pv i σ H → SqL K H a xs)
    (hs : ∀ i x σ H T, xs[i]? = some x → Pv i σ H → H T = none → g (.ref T) σ (upd H T (.tup [.int (k + (i : Nat)), x])) fun σ2 H2 => tb { D with nx := Pv (i + 1), ct := Pv (i + 1), bk := D.nx } σ2 H2) (hd : ∀ σ H, Pv xs.length σ H → D.nx σ H) :
    ∃ W : Nat → Nat → St → Hp → Prop, (∃ m, W 0 m σ H) ∧ ∀ i m σ H, W i m σ H →
      ((IteS K a k).stop i H ∧ D.nx σ H) ∨ ((IteS K a k).go i H ∧ ∃ N : St → Hp → Prop, (∀ σ' H', N σ' H' → ∃ m', m' < m ∧ W (i + 1) m' σ' H') ∧ ∀ x H', (IteS K a k).yld i H x H' → g x σ H' fun σ2 H2 => tb { D with nx := N, ct := N, bk := D.nx } σ2 H2) := by
  refine ⟨fun i m σ H => m = xs.length - i ∧ i ≤ xs.length ∧ Pv i σ H, ⟨_, rfl, Nat.zero_le _, h0⟩, fun i m σ H w => ?_⟩
  obtain ⟨rfl, hi, p⟩ := w
  have q := hl i σ H hi p
  rcases Nat.lt_or_ge i xs.length with hlt | hge
  · refine .inr ⟨⟨xs, _, q, List.getElem?_eq_getElem hlt⟩, Pv (i + 1), fun σ' H' p' => ⟨xs.length - (i + 1), by omega, rfl, hlt, p'⟩, ?_⟩
    rintro x H' ⟨T, y, rfl, hT, rfl, hy⟩
    exact hs i y σ H T (hy xs q) p hT
  · have e : i = xs.length := by omega
    subst e
    exact .inl ⟨⟨xs, q, Nat.le_refl _⟩, hd σ H p⟩
theorem drop_get {α : Type} {l : List α} {i : Nat} {x : α} (h : l[i]? = some x) : l.drop i = x :: l.drop (i + 1) := by
  obtain ⟨hi, e⟩ := List.getElem?_eq_some_iff.mp h
  rw [List.drop_eq_getElem_cons hi, e]
theorem take_get {α : Type} {l : List α} {i : Nat} {x : α} (h : l[i]? = some x) : l.take (i + 1) = l.take i ++ [x] := by
  rw [List.take_succ, h]; rfl
/-! ### a pair of ints, list or tuple -/
def PairR (K : PySem.W.Frag) (H : Hp) (x : V) (c : Int × Int) : Prop := ∃ t, x = .ref t ∧ (SqT K H t [.int c.1, .int c.2] ∨ SqL K H t [.int c.1, .int c.2])
def PairsR (K : PySem.W.Frag) (H : Hp) : List V → List (Int × Int) → Prop := Paired (PairR K H)
theorem PairR.same {K : PySem.W.Frag} {H H' : Hp} (e : Same H H') {x : V} {c : Int × Int} (h : PairR K H x c) : PairR K H' x c := by
  obtain ⟨t, rfl, h | h⟩ := h
  · exact ⟨t, rfl, .inl (e.tup h)⟩
  · exact ⟨t, rfl, .inr (e.seq h)⟩
theorem PairsR.same {K : PySem.W.Frag} {H H' : Hp} (e : Same H H') {xs : List V} {cs : List (Int × Int)} (h : PairsR K H xs cs) : PairsR K H' xs cs := Paired.mapP h fun _ _ z => z.same e
theorem PairsR.get {K : PySem.W.Frag} {H : Hp} {xs : List V} {cs : List (Int × Int)} (h : PairsR K H xs cs) {i : Nat} {x : V} (hx : xs[i]? = some x) : ∃ c, cs[i]? = some c ∧ PairR K H x c := paired_get h hx
theorem PairsR.len {K : PySem.W.Frag} {H : Hp} {xs : List V} {cs : List (Int × Int)} (h : PairsR K H xs cs) : xs.length = cs.length := Paired.length h
/-- x[0], x[1] of such -/
theorem PairR.ix0 {K : PySem.W.Frag} {H : Hp} {x : V} {c : Int × Int} (h : PairR K H x c) {Q : VK} (q : Q (.int c.1) H) : rIx K x (.int 0) H Q := by
  obtain ⟨t, rfl, h | h⟩ := h
  · exact .inr (.inl ⟨t, _, 0, _, rfl, rfl, h, rfl, q⟩)
  · exact .inl ⟨t, _, 0, _, rfl, rfl, h, rfl, q⟩
theorem PairR.ix1 {K : PySem.W.Frag} {H : Hp} {x : V} {c : Int × Int} (h : PairR K H x c) {Q : VK} (q : Q (.int c.2) H) : rIx K x (.int 1) H Q := by
  obtain ⟨t, rfl, h | h⟩ := h
  · exact .inr (.inl ⟨t, _, 1, _, rfl, rfl, h, rfl, q⟩)
  · exact .inl ⟨t, _, 1, _, rfl, rfl, h, rfl, q⟩
/-- the slots behind a, b = such -/
theorem PairR.unpack {K : PySem.W.Frag} {H : Hp} {x : V} {c : Int × Int} (h : PairR K H x c) {σ : St} {i j : Nat} {Q : St → Hp → Prop} (q : Q ((σ.set i (some (.int c.1))).set j (some (.int c.2))) H) : gSeq K 2 (gCons (gName i) (gCons (gName j) gNil)) x σ H Q := by
  obtain ⟨t, rfl, h | h⟩ := h
  · exact .inl ⟨t, _, rfl, h, rfl, _, _, rfl, _, _, rfl, rfl, q⟩
  · exact .inr ⟨t, _, rfl, h, rfl, _, _, rfl, _, _, rfl, rfl, q⟩
end L2
namespace L2
open PySem PySem.Spec PyProof.Rows
/-! ### rules with the written part named (within comprehensions) -/
section
variable {X : Cx} {K : PySem.W.Frag}
theorem ix_seqK (h : X.K = K) : IxR X (rIx K) := h ▸ ix_seq
theorem ix_listK (h : X.K = K) : IxR X (rIxL K) := h ▸ ix_list
theorem ix_tupK (h : X.K = K) : IxR X (rIxT K) := h ▸ ix_tup
theorem get_listK (h : X.K = K) : PGet X (rIxL K) := h ▸ get_list
theorem len_seqK (h : X.K = K) : CallR X (.builtin "len") (fun xs H Q => ∃ p ys, xs = [.ref p] ∧ (SqL K H p ys ∨ SqT K H p ys) ∧ Q (.int ys.length) H) := h ▸ call_len_seq
theorem list_ofK (h : X.K = K) : CallR X (.type "list") (fun xs H Q => ∃ p ys, xs = [.ref p] ∧ (SqL K H p ys ∨ SqT K H p ys) ∧ ∀ l, H l = none → Q (.ref l) (upd H l (.lst ys))) := h ▸ call_list_of
theorem anyK (h : X.K = K) (hc : X.calm = true) : CallR X (.builtin "any") (rAny K) := h ▸ cr_any hc
theorem sumK (h : X.K = K) (hc : X.calm = true) : CallR X (.builtin "sum") (rSum K) := h ▸ cr_sum hc
theorem maxK (h : X.K = K) (hc : X.calm = true) : CallR X (.builtin "max") (rMax K) := h ▸ cr_max hc
theorem minK (h : X.K = K) (hc : X.calm = true) : CallR X (.builtin "min") (rMin K) := h ▸ cr_min hc
theorem sl_listK (h : X.K = K) : SlR X (rSlL K) := h ▸ sl_list
theorem eqDK (h : X.K = K) (hu : X.A.units + 64 < cLine) : OpR X (compareOp .Eq) (rEqD K) := h ▸ op_eqD hu
theorem neDK (h : X.K = K) (hu : X.A.units + 64 < cLine) : OpR X (compareOp .NotEq) (rNeD K) := h ▸ op_neD hu
theorem isiK (h : X.K = K) : CallR X (.builtin "isinstance") (rIsi K) := h ▸ call_isi
theorem isiTK (h : X.K = K) : CallR X (.builtin "isinstance") (rIsiT K) := h ▸ call_isiT
theorem pg_tupK {pos : Pos} {es : List Expr} {k : Nat} {t : TGs} {n : Nat} (e : X.K = K) (hc : X.calm = true) (h : PGs X es t)
    (hn : (assignEach es X.env).length = n := by rfl) (hst : (assignEach es X.env).findIdx? (·.1) = none := by rfl) : PG X (.Tuple es k pos) (gTup K n t) := e ▸ pg_tup hc h hn hst
theorem pg_seqK {pos : Pos} {es : List Expr} {k : Nat} {t : TGs} {n : Nat} (e : X.K = K) (hc : X.calm = true) (h : PGs X es t)
    (hn : (assignEach es X.env).length = n := by rfl) (hst : (assignEach es X.env).findIdx? (·.1) = none := by rfl) : PG X (.Tuple es k pos) (gSeq K n t) := e ▸ pg_seq hc h hn hst
theorem pi_listK {tg e : Expr} {te : TE} (h : X.K = K) (he : PE X e te) : PI X tg e (iList K te) := h ▸ pi_list he
end
end L2
namespace L2
open PySem PySem.Spec PyProof.Rows
theorem for_upto {lo : Int} {n L : Nat} {g : TG} {tb : TS} {D : Ends} {σ : St} {H : Hp} (hn : n = L) (Pv : Nat → St → Hp → Prop) (h0 : Pv 0 σ H)
    (hs : ∀ i σ H, i < L → Pv i σ H → g (.int (lo + i)) σ H fun σ2 H2 => tb { D with nx := Pv (i + 1), ct := Pv (i + 1), bk := D.nx } σ2 H2) (hd : ∀ σ H, Pv L σ H → D.nx σ H) :
    ∃ W : Nat → Nat → St → Hp → Prop, (∃ m, W 0 m σ H) ∧ ∀ i m σ H, W i m σ H →
      ((Itr lo n).stop i H ∧ D.nx σ H) ∨ ((Itr lo n).go i H ∧ ∃ N : St → Hp → Prop, (∀ σ' H', N σ' H' → ∃ m', m' < m ∧ W (i + 1) m' σ' H') ∧ ∀ x H', (Itr lo n).yld i H x H' → g x σ H' fun σ2 H2 => tb { D with nx := N, ct := N, bk := D.nx } σ2 H2) := by
  subst hn
  exact for_range Pv h0 hs hd
theorem ints_ix {ns : List Int} {i : Nat} (h : i < ns.length) : ∃ z, ns[i]? = some z := ⟨_, List.getElem?_eq_getElem h⟩
end L2
end
section
set_option maxRecDepth 100000
set_option maxHeartbeats 4000000
namespace L2
open PySem PySem.Spec PyProof.Rows
theorem cut_take (xs : List V) {z : Int} {k : Nat} (h : z = (k : Int)) : cutV xs none (some z) = xs.take k := by
  subst h
  unfold cutV
  rw [HT.sIx_nat, HT.sIx_none, List.drop_zero, Nat.sub_zero]
  rcases Nat.le_total k xs.length with h | h
  · rw [Nat.min_eq_left h]
  · rw [Nat.min_eq_right h, List.take_length, List.take_of_length_le h]
theorem cut_drop (xs : List V) {z : Int} {k : Nat} (h : z = (k : Int)) : cutV xs (some z) none = xs.drop k := by
  subst h
  unfold cutV
  rw [HT.sIx_nat, HT.sIx_none]
  rcases Nat.le_total k xs.length with h | h
  · rw [Nat.min_eq_left h, List.take_of_length_le]
    rw [List.length_drop]; omega
  · rw [Nat.min_eq_right h, List.drop_length, List.drop_of_length_le h]
    exact List.take_nil
/-- x[i:] of a list, as slicing of what stands there -/
theorem map_take {α : Type} (f : α → V) (ns : List α) (k : Nat) : (ns.map f).take k = (ns.take k).map f := List.map_take.symm
theorem map_drop {α : Type} (f : α → V) (ns : List α) (k : Nat) : (ns.map f).drop k = (ns.drop k).map f := List.map_drop.symm
theorem max_eq {ns : List Int} {m m' : Int} (h : m ∈ ns) (hm : ∀ y ∈ ns, y ≤ m) (h' : m' ∈ ns) (hm' : ∀ y ∈ ns, y ≤ m') : m = m' := Int.le_antisymm (hm' _ h) (hm _ h')
theorem PairR.unpackN {K : PySem.W.Frag} {H : Hp} {x : V} {c : Int × Int} (h : PairR K H x c) {σ : St} {i j n : Nat} (hn : n = 2) {Q : St → Hp → Prop} (q : Q ((σ.set i (some (.int c.1))).set j (some (.int c.2))) H) : gSeq K n (gCons (gName i) (gCons (gName j) gNil)) x σ H Q := by
  subst hn
  exact h.unpack q
section
variable {K : PySem.W.Frag} {D : Addr} {g : TG} {tt : TT} {te : TE} {vs : List Nat} {σ : St} {H1 : Hp} {Q : Hp → Prop}
theorem lc_upto {lo : Int} {n L : Nat} (hn : n = L) (hD : H1 D = none) (hz : L < 100000) (Acc : Nat → List V → Hp → Prop) (h0 : ∀ H', Same H1 H' → Acc 0 [] H')
    (hs : ∀ i acc H' (N : V → Hp → Prop) (N0 : Hp → Prop), i < L → Same H1 H' → H' D = some (.lst acc) → Acc i acc H' →
      (∀ y H4, Same H' H4 → (∀ H5, But D H4 H5 → H5 D = some (.lst (acc ++ [y])) → Acc (i + 1) (acc ++ [y]) H5) → N y H4) → (∀ H3, Same H' H3 → Acc (i + 1) acc H3 → N0 H3) →
      g (.int (lo + i)) (wipe σ vs) H' fun σ2 H2 => wipe σ2 vs = wipe σ vs ∧ tt σ2 H2 fun b H3 => if b = true then te σ2 H3 N else N0 H3)
    (hd : ∀ acc H', Same H1 H' → H' D = some (.lst acc) → acc.length ≤ L → Acc L acc H' → Q H') :
    ∃ W : Nat → Nat → Hp → Prop, (∃ m, W 0 m (upd H1 D (.lst []))) ∧ ∀ i m H, W i m H →
      ((Itr lo n).stop i H ∧ Q H) ∨ ((Itr lo n).go i H ∧ ∃ Nx : Hp → Prop, (∀ H', Nx H' → ∃ m', m' < m ∧ W (i + 1) m' H') ∧ ∀ x H', (Itr lo n).yld i H x H' → g x (wipe σ vs) H' fun σ2 H2 => wipe σ2 vs = wipe σ vs ∧ tt σ2 H2 fun b H3 =>
        if b = true then te σ2 H3 fun y H4 => ∃ acc, H4 D = some (.lst acc) ∧ acc.length < sizeLine ∧ Nx (upd H4 D (.lst (acc ++ [y]))) else Nx H3) := by
  subst hn
  exact lc_accR hD hz Acc h0 hs hd
end
/-! ### what stands elsewhere than at a -/
section
variable {K : PySem.W.Frag} {sa : Addr} {H H' : Hp}
theorem But.seq (e : But sa H H') {a : Addr} {xs : List V} (n : a ≠ sa) (h : SqL K H a xs) : SqL K H' a xs := by
  rcases h with (h | ⟨o, h⟩) | h
  · exact .inl (.inl (e _ _ h n))
  · exact .inl (.inr ⟨o, e _ _ h n⟩)
  · exact .inr h
theorem But.tup (e : But sa H H') {a : Addr} {xs : List V} (n : a ≠ sa) (h : SqT K H a xs) : SqT K H' a xs := by
  rcases h with (h | ⟨o, h⟩) | h
  · exact .inl (.inl (e _ _ h n))
  · exact .inl (.inr ⟨o, e _ _ h n⟩)
  · exact .inr h
theorem Same.but (e : Same H H') : But sa H H' := But.of e
theorem PairR.but (e : But sa H H') {x : V} {c : Int × Int} (n : x ≠ .ref sa) (h : PairR K H x c) : PairR K H' x c := by
  obtain ⟨t, rfl, h | h⟩ := h
  · exact ⟨t, rfl, .inl (e.tup (fun z => n (by rw [z])) h)⟩
  · exact ⟨t, rfl, .inr (e.seq (fun z => n (by rw [z])) h)⟩
/-- such, none of them at D -/
def PairD (K : PySem.W.Frag) (D : Addr) (H : Hp) (x : V) (c : Int × Int) : Prop := PairR K H x c ∧ x ≠ .ref D
def PairsD (K : PySem.W.Frag) (D : Addr) (H : Hp) : List V → List (Int × Int) → Prop := Paired (PairD K D H)
theorem PairsD.but {D : Addr} (e : But D H H') {xs : List V} {cs : List (Int × Int)} (h : PairsD K D H xs cs) : PairsD K D H' xs cs := Paired.mapP h fun _ _ z => ⟨z.1.but e z.2, z.2⟩
theorem PairsD.same {D : Addr} (e : Same H H') {xs : List V} {cs : List (Int × Int)} (h : PairsD K D H xs cs) : PairsD K D H' xs cs := Paired.mapP h fun _ _ z => ⟨z.1.same e, z.2⟩
theorem PairsD.prs {D : Addr} {xs : List V} {cs : List (Int × Int)} (h : PairsD K D H xs cs) : PairsR K H xs cs := Paired.mapP h fun _ _ z => z.1
theorem paired_snoc {α β : Type} {R : α → β → Prop} {xs : List α} {ys : List β} {x : α} {y : β} (h : Paired R xs ys) (r : R x y) : Paired R (xs ++ [x]) (ys ++ [y]) := by
  induction h with
  | nil => exact .cons r .nil
  | cons a _ ih => exact .cons a ih
theorem PairsR.but (e : But sa H H') {xs : List V} {cs : List (Int × Int)} (n : ∀ x ∈ xs, x ≠ .ref sa) (h : PairsR K H xs cs) : PairsR K H' xs cs := by
  induction h with
  | nil => exact .nil
  | cons a _ ih => exact .cons (a.but e (n _ List.mem_cons_self)) (ih fun x hx => n x (List.mem_cons_of_mem _ hx))
theorem paired_app {α β : Type} {R : α → β → Prop} {xs xs' : List α} {ys ys' : List β} (h : Paired R xs ys) (h' : Paired R xs' ys') : Paired R (xs ++ xs') (ys ++ ys') := by
  induction h with
  | nil => exact h'
  | cons a _ ih => exact .cons a ih
end
section
variable {K : PySem.W.Frag} {a D sa : Addr} {xs : List V} {g : TG} {tt : TT} {te : TE} {vs : List Nat} {σ : St} {H1 : Hp} {Q : Hp → Prop}
/-- a comprehension whose element changes what stands at sa -/
theorem lc_accB (hD : H1 D = none) (hsa : H1 sa ≠ none) (ha : a ≠ sa) (hS : SqL K H1 a xs) (hz : xs.length < 100000) (Acc : Nat → List V → Hp → Prop) (h0 : ∀ H', Same H1 H' → Acc 0 [] H')
    (hs : ∀ i x acc H' (N : V → Hp → Prop) (N0 : Hp → Prop), xs[i]? = some x → But sa H1 H' → H' D = some (.lst acc) → Acc i acc H' →
      (∀ y H4, But sa H' H4 → (∀ H5, But D H4 H5 → H5 D = some (.lst (acc ++ [y])) → Acc (i + 1) (acc ++ [y]) H5) → N y H4) → (∀ H3, But sa H' H3 → Acc (i + 1) acc H3 → N0 H3) →
      g x (wipe σ vs) H' fun σ2 H2 => wipe σ2 vs = wipe σ vs ∧ tt σ2 H2 fun b H3 => if b = true then te σ2 H3 N else N0 H3)
    (hd : ∀ acc H', But sa H1 H' → H' D = some (.lst acc) → acc.length ≤ xs.length → Acc xs.length acc H' → Q H') :
    ∃ W : Nat → Nat → Hp → Prop, (∃ m, W 0 m (upd H1 D (.lst []))) ∧ ∀ i m H, W i m H →
      ((Itl K a).stop i H ∧ Q H) ∨ ((Itl K a).go i H ∧ ∃ Nx : Hp → Prop, (∀ H', Nx H' → ∃ m', m' < m ∧ W (i + 1) m' H') ∧ ∀ x H', (Itl K a).yld i H x H' → g x (wipe σ vs) H' fun σ2 H2 => wipe σ2 vs = wipe σ vs ∧ tt σ2 H2 fun b H3 =>
        if b = true then te σ2 H3 fun y H4 => ∃ acc, H4 D = some (.lst acc) ∧ acc.length < sizeLine ∧ Nx (upd H4 D (.lst (acc ++ [y]))) else Nx H3) := by
  have hDs : D ≠ sa := fun z => hsa (z ▸ hD)
  refine lc_list (K := K) (a := a) (xs := xs) (fun i H' => But sa H1 H' ∧ ∃ acc, H' D = some (.lst acc) ∧ acc.length ≤ i ∧ Acc i acc H') ⟨But.of (same_new hD), [], upd_same, Nat.le_refl _, h0 _ (same_new hD)⟩ (fun i H' _ h => h.1.seq ha hS) ?_ ?_
  · rintro i x H' hx ⟨e, acc, hacc, hl, ha'⟩
    have hi : i < xs.length := (List.getElem?_eq_some_iff.mp hx).1
    refine hs i x acc H' _ _ hx e hacc ha' (fun y H4 s4 a4 => ?_) (fun H3 s3 a3 => ?_)
    · exact ⟨acc, s4 _ _ hacc hDs, line_lt (by omega), (e.trans s4).mut hD, acc ++ [y], upd_same, by rw [List.length_append]; exact Nat.succ_le_succ hl, a4 _ (fun b o hb n => by rw [upd_ne n]; exact hb) upd_same⟩
    · exact ⟨e.trans s3, acc, s3 _ _ hacc hDs, Nat.le_succ_of_le hl, a3⟩
  · rintro H' ⟨e, acc, hacc, hl, ha'⟩
    exact hd acc H' e hacc hl ha'
theorem lc_uptoB {lo : Int} {n L : Nat} (hn : n = L) (hD : H1 D = none) (hsa : H1 sa ≠ none) (hz : L < 100000) (Acc : Nat → List V → Hp → Prop) (h0 : ∀ H', Same H1 H' → Acc 0 [] H')
    (hs : ∀ i acc H' (N : V → Hp → Prop) (N0 : Hp → Prop), i < L → But sa H1 H' → H' D = some (.lst acc) → Acc i acc H' →
      (∀ y H4, But sa H' H4 → (∀ H5, But D H4 H5 → H5 D = some (.lst (acc ++ [y])) → Acc (i + 1) (acc ++ [y]) H5) → N y H4) → (∀ H3, But sa H' H3 → Acc (i + 1) acc H3 → N0 H3) →
      g (.int (lo + i)) (wipe σ vs) H' fun σ2 H2 => wipe σ2 vs = wipe σ vs ∧ tt σ2 H2 fun b H3 => if b = true then te σ2 H3 N else N0 H3)
    (hd : ∀ acc H', But sa H1 H' → H' D = some (.lst acc) → acc.length ≤ L → Acc L acc H' → Q H') :
    ∃ W : Nat → Nat → Hp → Prop, (∃ m, W 0 m (upd H1 D (.lst []))) ∧ ∀ i m H, W i m H →
      ((Itr lo n).stop i H ∧ Q H) ∨ ((Itr lo n).go i H ∧ ∃ Nx : Hp → Prop, (∀ H', Nx H' → ∃ m', m' < m ∧ W (i + 1) m' H') ∧ ∀ x H', (Itr lo n).yld i H x H' → g x (wipe σ vs) H' fun σ2 H2 => wipe σ2 vs = wipe σ vs ∧ tt σ2 H2 fun b H3 =>
        if b = true then te σ2 H3 fun y H4 => ∃ acc, H4 D = some (.lst acc) ∧ acc.length < sizeLine ∧ Nx (upd H4 D (.lst (acc ++ [y]))) else Nx H3) := by
  subst hn
  have hDs : D ≠ sa := fun z => hsa (z ▸ hD)
  refine lc_range (lo := lo) (n := n) (fun i H' => But sa H1 H' ∧ ∃ acc, H' D = some (.lst acc) ∧ acc.length ≤ i ∧ Acc i acc H') ⟨But.of (same_new hD), [], upd_same, Nat.le_refl _, h0 _ (same_new hD)⟩ ?_ ?_
  · rintro i H' hi ⟨e, acc, hacc, hl, ha'⟩
    refine hs i acc H' _ _ hi e hacc ha' (fun y H4 s4 a4 => ?_) (fun H3 s3 a3 => ?_)
    · exact ⟨acc, s4 _ _ hacc hDs, line_lt (by omega), (e.trans s4).mut hD, acc ++ [y], upd_same, by rw [List.length_append]; exact Nat.succ_le_succ hl, a4 _ (fun b o hb n => by rw [upd_ne n]; exact hb) upd_same⟩
    · exact ⟨e.trans s3, acc, s3 _ _ hacc hDs, Nat.le_succ_of_le hl, a3⟩
  · rintro H' ⟨e, acc, hacc, hl, ha'⟩
    exact hd acc H' e hacc hl ha'
end
theorem seq_via {t u : TS} {D : Ends} {σ : St} {H : Hp} (C : St → Hp → Prop) (h : ∀ U : St → Hp → Prop, (∀ σ' H', C σ' H' → U σ' H') → t { D with nx := U } σ H) (h2 : ∀ σ' H', C σ' H' → u D σ' H') : tSeq t u D σ H := h (u D) h2
section
variable {X : Cx} {K : PySem.W.Frag} {tg e : Expr} {w1 w2 : TI}
def iOr (w1 w2 : TI) : TI := fun σ H R => w1 σ H R ∨ w2 σ H R
theorem pi_or (h1 : PI X tg e w1) (h2 : PI X tg e w2) : PI X tg e (iOr w1 w2) := ⟨fun pins s σ H R I h => h.elim (h1.run pins s σ H R I) (h2.run pins s σ H R I)⟩
theorem pi_tupK {te : TE} (h : X.K = K) (he : PE X e te) : PI X tg e (iTup K te) := h ▸ pi_tup he
end
end L2
end
section
set_option maxRecDepth 100000
set_option maxHeartbeats 4000000
namespace L2
open PySem PySem.Spec PyProof.Rows
/-! ### plain data, compared with itself -/
theorem dpall_ints {K : PySem.W.Frag} {H : Hp} : ∀ ns : List Int, DpAll K H (ns.map V.int) (ns.map PyData.int)
  | [] => .nil
  | n :: t => .cons (.int n) (dpall_ints t)
theorem dp_ints {K : PySem.W.Frag} {H : Hp} {a : Addr} {ns : List Int} (h : SqL K H a (ns.map V.int)) : Dp K H (.ref a) (.list (ns.map PyData.int)) := .lst h (dpall_ints ns)
theorem canLay_of {d : PyData} (h : SeqAt.shaped d = true) : d.canLay0 = true := (Bool.and_eq_true_iff.mp h).1
theorem eqv_self {d : PyData} (h : SeqAt.shaped d = true) : PyData.eqv d d = true := SeqAt.eqv_refl d (canLay_of h)
theorem shaped_nums (ns : List Int) : SeqAt.shaped (.list (ns.map PyData.int)) = true := PySem.W.shaped_ints ns
end L2
end
section
set_option maxRecDepth 100000
set_option maxHeartbeats 4000000
namespace L2
open PySem PySem.Spec PyProof.Rows
/-! ### pairs of ints, each a list or a tuple, as data -/
abbrev G3 : Type := Bool × Int × Int
def dG (g : G3) : PyData := if g.1 = true then .list [.int g.2.1, .int g.2.2] else .tuple [.int g.2.1, .int g.2.2]
def datG (gs : List G3) : PyData := .list (gs.map dG)
def Sm (n : Int) : Prop := 0 ≤ n ∧ n < 4294967296
theorem sm_log {n : Int} (h : Sm n) : n.natAbs.log2 ≤ 32 := by
  obtain ⟨h0, h1⟩ := h
  by_cases z : n.natAbs = 0
  · rw [z]; decide
  · exact Nat.le_of_lt_succ ((Nat.log2_lt z).mpr (by omega))
theorem sm_short {n : Int} (h : Sm n) : ((PyData.int n).shown).length ≤ 13 := PyData.shown_int_le2 (by have := h.1; omega) (by have := h.2; omega)
theorem sm_show {n : Int} (h : Sm n) : (PyData.int n).showable = true := by
  have := sm_log h
  unfold PyData.showable
  exact decide_eq_true (by omega)
theorem sm_weight {n : Int} (h : Sm n) : (PyData.int n).weight ≤ 33 := by
  have := sm_log h
  unfold PyData.weight
  split <;> omega
structure GoodD (d : PyData) (dp wt : Nat) : Prop where
  show_ : d.showable = true
  dict : d.hasDict = false
  depth : d.depth ≤ dp
  lay : d.canLay0 = true
  weight : d.weight ≤ wt
  short : d.intsShort 13 = true
theorem good_int {n : Int} (h : Sm n) : GoodD (.int n) 0 33 := ⟨sm_show h, by unfold PyData.hasDict; rfl, by unfold PyData.depth; exact Nat.le_refl _, by unfold PyData.canLay0; rfl, sm_weight h, by unfold PyData.intsShort; exact decide_eq_true (sm_short h)⟩
structure GoodA (ds : List PyData) (dp wt : Nat) : Prop where
  show_ : PyData.showableAll ds = true
  dict : PyData.hasDictAll ds = false
  depth : PyData.depthAll ds ≤ dp
  lay : PyData.canLayAll0 ds = true
  weight : PyData.weightAll ds ≤ wt * ds.length
  short : PyData.intsShortAll 13 ds = true
theorem good_all {dp wt : Nat} : ∀ ds : List PyData, (∀ d ∈ ds, GoodD d dp wt) → GoodA ds dp (wt + 1)
  | [], _ => ⟨by unfold PyData.showableAll; rfl, by unfold PyData.hasDictAll; rfl, by unfold PyData.depthAll; exact Nat.zero_le _, by unfold PyData.canLayAll0; rfl, by unfold PyData.weightAll; exact Nat.zero_le _, by unfold PyData.intsShortAll; rfl⟩
  | d :: t, h => by
    have hd := h d List.mem_cons_self
    have ht := good_all t fun e he => h e (List.mem_cons_of_mem _ he)
    refine ⟨by unfold PyData.showableAll; rw [hd.show_, ht.show_]; rfl, by unfold PyData.hasDictAll; rw [hd.dict, ht.dict]; rfl, by unfold PyData.depthAll; have := hd.depth; have := ht.depth; omega, by unfold PyData.canLayAll0; rw [hd.lay, ht.lay]; rfl, ?_, by unfold PyData.intsShortAll; rw [hd.short, ht.short]; rfl⟩
    unfold PyData.weightAll
    have h1 := hd.weight
    have h2 := ht.weight
    rw [List.length_cons, Nat.mul_succ]
    omega
theorem GoodA.list {ds : List PyData} {dp wt : Nat} (h : GoodA ds dp wt) : GoodD (.list ds) (dp + 1) (wt * ds.length) :=
  ⟨by unfold PyData.showable; exact h.show_, by unfold PyData.hasDict; exact h.dict, by unfold PyData.depth; exact Nat.succ_le_succ h.depth, by unfold PyData.canLay0; exact h.lay, by unfold PyData.weight; exact h.weight, by unfold PyData.intsShort; exact h.short⟩
theorem GoodA.tuple {ds : List PyData} {dp wt : Nat} (h : GoodA ds dp wt) : GoodD (.tuple ds) (dp + 1) (wt * ds.length) :=
  ⟨by unfold PyData.showable; exact h.show_, by unfold PyData.hasDict; exact h.dict, by unfold PyData.depth; exact Nat.succ_le_succ h.depth, by unfold PyData.canLay0; exact h.lay, by unfold PyData.weight; exact h.weight, by unfold PyData.intsShort; exact h.short⟩
theorem good_dG {g : G3} (h1 : Sm g.2.1) (h2 : Sm g.2.2) : GoodD (dG g) 1 68 := by
  have ha : GoodA [PyData.int g.2.1, PyData.int g.2.2] 0 34 := good_all _ fun d hd => by
    rcases List.mem_cons.mp hd with rfl | hd
    · exact good_int h1
    · rw [List.mem_singleton.mp hd]; exact good_int h2
  unfold dG
  split
  · exact ha.list
  · exact ha.tuple
theorem good_datG {gs : List G3} (h : ∀ g ∈ gs, Sm g.2.1 ∧ Sm g.2.2) : GoodD (datG gs) 2 (69 * gs.length) := by
  have := (good_all (gs.map dG) fun d hd => by
    obtain ⟨g, hg, rfl⟩ := List.mem_map.mp hd
    exact good_dG (h g hg).1 (h g hg).2).list
  rw [List.length_map] at this
  exact this
theorem GoodD.fits {d : PyData} {dp wt : Nat} (h : GoodD d dp wt) (h1 : dp ≤ 64) (h2 : wt ≤ 2 ^ 20) : d.shown.length ≤ sizeLine := by
  refine PyData.shown_fits_of_layable0 (B := 13) (by decide) (by decide) ?_ h.short
  unfold PyData.layable0
  rw [h.lay, decide_eq_true (Nat.le_trans h.depth h1), decide_eq_true (Nat.le_trans h.weight h2)]
  rfl
theorem GoodD.shaped {d : PyData} {dp wt : Nat} (h : GoodD d dp wt) (h1 : dp ≤ 64) : SeqAt.shaped d = true := by
  unfold SeqAt.shaped
  rw [h.lay, decide_eq_true (Nat.le_trans h.depth h1)]
  rfl
end L2
end
section
set_option maxRecDepth 100000
set_option maxHeartbeats 4000000
namespace LamX
open PySem PySem.Spec PyProof.Rows L2
/-! ### x(), what it may raise told of the slots at the call -/
section
variable {X : Cx} {pins : List (Addr × Obj)} {σ : L2.St} {H : Hp} {s : Shared}
theorem pe_act3 {CXg : CXT} {Eg : XK} {Ng : List Str} {qg : Str} {sg : Scope} {g f c' : Addr} {cdg pm ctv : Value} {params : Arguments} {body : Expr} {scope : Scope} {k i : Nat} {a : Str} {pn : List (Addr × Obj)} {xe : Value → Shared → Prop} {W : WX} {E : XK} {tb : TE} {p1 p2 : Pos}
    (I : Inv X pins σ H s) (L : LamS X.env.scope scope) (hf : s.heap.get? f = some (PySem.W.kla_obj "<lambda>" (X.env.qual ++ "<lambda>") params body scope (cloFrom X.env.cells scope.names []) pm c' ctv)) (hfn : H f = none) (hfr : f ∉ frs X.stack)
    (hbind : bindArgs (PySem.W.kla_fn "<lambda>" (X.env.qual ++ "<lambda>") params body scope (cloFrom X.env.cells scope.names []) pm (.ref c') ctv) ⟨[], []⟩ = pure [])
    (tk : Takes ((cxOf CXg X.prog X.w X.K X.mg X.base Ng qg sg g cdg X.A X.stack s H Eg).tr pn xe) W) (hr : Room (k + 1) (X.A.deeper (envOfC qg sg s.heap.objs.size g cdg)))
    (hbody : ∀ (A : Around) (outer : List Env) (s : Shared) (H : Hp), Room k (A.deeper (lamEnv X scope s.heap.objs.size f c')) → PE (lamCx X A outer s H E scope f c') body tb)
    (hN : Ng[i]? = some a) (hv : Vis sg a) (hd : (a == ("__debug__" : Str)) = false := by decide) (hcd : (a == ("__classdict__" : Str)) = false := by decide) :
    PE ((cxOf CXg X.prog X.w X.K X.mg X.base Ng qg sg g cdg X.A X.stack s H Eg).tr pn xe) (.Call (.Name a p1) [] [] p2)
      (fun σZ HZ Q => σZ[i]? = some (some (.ref f)) ∧ HZ c' = some (CodeO c' (X.env.qual ++ "<lambda>")) ∧ (∀ cls d H', E cls d H' → W cls d σZ H') ∧ tb σ HZ Q) := by
  refine ⟨fun pinsZ sZ σZ HZ Q IZ h => ?_⟩
  obtain ⟨hs, hc, hW, ht⟩ := h
  refine wpAny_Call_Name_kw (thn ((pe_var (pos := p1) (i := i) hN hv hd hcd).run pinsZ sZ σZ HZ (fun v H1 => v = .ref f ∧ H1 = HZ) IZ ⟨.ref f, hs, rfl, rfl⟩) fun u s1 ⟨v, H1, I1, r1, q1⟩ => ?_)
  obtain ⟨ev, eH⟩ := q1
  subst ev
  rw [eH] at I1
  obtain rfl : u = Value.ref f := r1
  have of1 : s1.heap.get? f = some (PySem.W.kla_obj "<lambda>" (X.env.qual ++ "<lambda>") params body scope (cloFrom X.env.cells scope.names []) pm c' ctv) := I1.base.keep f _ hf hfn hfr (fun z => nomatch (show f ∈ ([] : List Addr) from z))
  refine PySem.W.callWith_F0 ⟨_, _, _, _, of1⟩ ?_
  have un : Un (frs X.stack) [] H HZ s.heap s1.heap := I1.base
  obtain ⟨⟨oc, vs, t, hoc, hdc, hvc⟩, _, _⟩ := I1.hok c' _ hc
  have rc : codeAny (model X.prog X.w) (X.A.deeper (envOfC qg sg s.heap.objs.size g cdg)) (.call (.ref f) ⟨[], []⟩) (CR (L2.CX X.prog X.w) (envOfC qg sg s.heap.objs.size g cdg :: X.stack) X.prog X.w HZ s1 Q E) s1 := by
    refine PySem.W.kla_callFunE hr.depth of1 rfl L.co L.gen rfl ⟨c', oc, vs, t, rfl, hoc, hdc, hvc⟩ ?_
    rw [hbind]
    refine wpAny_pure (wpAny_newFunctionEnv (fun y hy => (L.own y hy).2) (fun y hy => absurd hy (by simp)) (fun h₁ hns hsb => ⟨I1.nolimit.fresh _ hsb, ?_⟩) L.kind)
    show codeAny _ _ (.expr body (lamEnv X scope s1.heap.objs.size f c')) _ _
    have kp : ∀ b o, s1.heap.get? b = some o → h₁.get? b = some o := fun b o e => hsb.extBut b o (Nat.ne_of_lt (Heap.lt_size e)) (Heap.get?_push_of_some _ e)
    have J : Inv (lamCx X (X.A.deeper (envOfC qg sg s.heap.objs.size g cdg)) (envOfC qg sg s.heap.objs.size g cdg :: X.stack) s1 HZ E scope f c') [] σ HZ { s1 with heap := h₁, toks := s1.toks + ([] : List (Str × Value)).length } :=
      lam_start2 I L I1.env0 hr.hd un hns kp
    refine PySem.W.kla_codeExpr (wpAny_mono ((hbody _ _ s1 HZ (hr.deeper _)).run [] _ _ HZ Q J ht) (fun v s' hq => ?_) fun e s' hq => hq)
    obtain ⟨w', H', J', rv, q⟩ := hq
    exact ⟨w', H', J'.os, J'.bare, J'.base, J'.hok, rv, q⟩
  refine wpAny_call (codeAny_mono rc fun r s' hq => ?_)
  cases r with
  | error e => exact tk e s' (XE.of_call I1 (fun cls d H' h => hW cls d H' h) hq)
  | ok fl =>
    cases fl with
    | ret u => exact I1.after hq
    | next => exact False.elim hq
    | brk => exact False.elim hq
    | cont => exact False.elim hq
end
def Gives3 (X : Cx) (Ng : List Str) (x : Str) (sg : Scope) (g : Addr) (cdg : Value) (bg : List Stmt) (a : Str) (q : Str) (TT : (XK → Hp → VK → Prop) → (Hp → Prop) → V → Hp → VK → Prop) : Prop :=
  ∀ (f c' : Addr) (s : Shared) (H : Hp) (Q : VK) (v2 : V) (tl : XK → Hp → VK → Prop),
    (∀ (W : WX) (pn : List (Addr × Obj)) (xe : Value → Shared → Prop) (E : XK) (p1 p2 : Pos), Takes ((cxOf C8.CX0 X.prog X.w X.K X.mg X.base Ng x sg g cdg X.A X.stack s H C8.E0).tr pn xe) W →
      PE ((cxOf C8.CX0 X.prog X.w X.K X.mg X.base Ng x sg g cdg X.A X.stack s H C8.E0).tr pn xe) (.Call (.Name a p1) [] [] p2) (fun σZ HZ Q => σZ[0]? = some (some (.ref f)) ∧ HZ c' = some (CodeO c' q) ∧ (∀ cls d H', E cls d H' → W cls d σZ H') ∧ tl E HZ Q)) →
    H c' = some (CodeO c' q) → TT tl (fun H' => H' c' = some (CodeO c' q)) v2 H Q →
    ∃ t, PSs (cxOf C8.CX0 X.prog X.w X.K X.mg X.base Ng x sg g cdg X.A X.stack s H C8.E0).nox bg t ∧ t { nx := fun _ H' => Q .non H', rt := Q } (L2.start Ng [.ref f, v2]) H
section
variable {X : Cx}
theorem pe_lamcall3 {T : List (Addr × Str)} {TT : (XK → Hp → VK → Prop) → (Hp → Prop) → V → Hp → VK → Prop} {x a a2 : Str} {g c P : Addr} {k : Nat} {pg : Arguments} {bg : List Stmt} {sg : Scope} {dV kV doc pm cdv ct oc : Value} {an od : Option Addr} {osl : Array (Option Value)} {Ng : List Str}
    {params : Arguments} {body : Expr} {scope : Scope} {t : XK → TE} {p lpos pos : Pos} {e2 : Expr} {te : TE} (hg : Gl X x) (hm : X.mg x = some (.ref g)) (hk : PySem.W.keepIn X.K (.ref g) = true)
    (lk : X.K.lookup g = some ⟨oc, od, .func (PySem.W.fnOf x x pg bg sg dV kV doc pm an cdv ct), osl⟩) (hcg : PySem.W.codeIn X.K cdv x = true) (hb : L2.Binds X.K (PySem.W.fnOf x x pg bg sg dV kV doc pm an cdv ct) [a, a2] []) (Sg : FnScope Ng [a, a2] sg) (hNg : Ng[0]? = some a) (hva : Vis sg a)
    (hG : Gives3 X Ng x sg g cdv bg a (X.env.qual ++ "<lambda>") TT)
    (TB : TabB X.base X.mg c P) (hcode : X.env.code = .ref c) (hmT : (P, X.env.qual ++ "<lambda>") ∈ T) (hu : ∀ p ∈ T, p.1 = P → p.2 = X.env.qual ++ "<lambda>") (hr : Room (k + 2) X.A) (L : LamS X.env.scope scope) (hdef : defaultsOf params X.env = ([], []))
    (hbind : ∀ (q : Str) (cl : List (Str × Addr)) (pm cv ctv : Value), bindArgs (PySem.W.kla_fn "<lambda>" q params body scope cl pm cv ctv) ⟨[], []⟩ = pure [])
    (hbody : ∀ (A : Around) (outer : List Env) (s : Shared) (H : Hp) (E : XK) (f c' : Addr), Room k (A.deeper (lamEnv X scope s.heap.objs.size f c')) → PE (lamCx X A outer s H E scope f c') body (t E))
    (he2 : PA X [e2] (tCons te tNil))
    (hdb : (x == ("__debug__" : Str)) = false := by decide) (hd : (a == ("__debug__" : Str)) = false := by decide) (hcd : (a == ("__classdict__" : Str)) = false := by decide)
    (hs : starEach [.Lambda params body scope lpos, e2] X.env = (false, eval (.Lambda params body scope lpos) X.env) :: starEach [e2] X.env := by rfl) (hpl : (backTo pos (starEach [e2] X.env)).any (·.1) = false := by rfl) :
    PE X (.Call (.Name x p) [.Lambda params body scope lpos, e2] [] pos) (tLam2 T (X.env.qual ++ "<lambda>") TT t te) := by
  constructor
  intro pins s σ H Q I h
  obtain ⟨hT, h⟩ := h
  refine wpAny_Call_Name_kw (ld_glob I hg hm ?_ hdb)
  refine PySem.W.callWith_K (h₀ := X.base) I.ok.mod.kin hk ?_ hs hpl
  rw [hs]
  show wpAny _ _ (spliced ((false, eval (.Lambda params body scope lpos) X.env) :: backTo pos (starEach [e2] X.env))) _ _ s
  refine Calls.spliced_cons (lam_make2 I TB hcode hmT hu hT hdef (L.has I.ok) fun f c' pm' ctv H1 s' I1 eN T1 hf hfn hfr hco => ?_)
  have hcell : ∀ v, (PySem.W.kla_obj "<lambda>" (X.env.qual ++ "<lambda>") params body scope (cloFrom X.env.cells scope.names []) pm' c' ctv).data ≠ .cell v := fun v z => by cases z
  have fL : f ≠ X.env.locals := fun z => by
    obtain ⟨m, ⟨o, es, ep, e1, e2', _⟩, _⟩ := I1.loc
    rw [← z, hf] at e1
    have e3 := Option.some.inj e1
    rw [← e3] at e2'
    cases e2'
  have Ip : Inv X ((f, _) :: pins) σ H1 s' := I1.pins_of fun r hr => by
    rcases List.mem_cons.mp hr with e | e
    · subst e
      exact ⟨hf, hfn, fL, fun z => hfr (by
        rcases I1.ok.stk with e | ⟨e, _⟩
        · rw [e]; exact z
        · rw [e]
          show f ∈ (X.env :: X.outer).filterMap _
          rw [List.filterMap_cons]
          split
          · exact z
          · exact List.mem_cons_of_mem _ z), hcell⟩
    · exact I1.pin r (List.mem_append_right _ e)
  have h2 := h H1 c' eN T1 hco
  refine thn (he2.run pos _ s' σ H1 (fun vs H2 => ∃ v2, vs = [v2] ∧ H2 c' = some (CodeO c' (X.env.qual ++ "<lambda>")) ∧ TT (fun E H' Q' => t E σ H' Q') (fun H' => H' c' = some (CodeO c' (X.env.qual ++ "<lambda>"))) v2 H2 Q) Ip h2) ?_
  rintro us s2 ⟨vs, H2, I2, r2, v2, rfl, hc2, q2⟩
  obtain ⟨u2, rfl, ru2⟩ := vals1 r2
  refine ⟨I2.kIn, ?_⟩
  obtain ⟨hf2, hfn2, _⟩ := I2.pin (f, _) (List.mem_append_right _ List.mem_cons_self)
  have J2 : Inv X pins σ H2 s2 := ClX.unpin I2
  have rc : codeAny (model X.prog X.w) X.A (.call (.ref g) ⟨[.ref f, u2], []⟩) (CR C8.CX0 X.stack X.prog X.w H2 s2 Q C8.E0) s2 := by
    refine run_ofS (N := Ng) (ps := [a, a2]) (us := [.ref f, u2]) (vs := [.ref f, v2]) lk hcg Sg hr J2.env0 (hb s2 [.ref f, u2] J2.kIn rfl) (.cons rfl (.cons ru2 .nil)) rfl fun hr' => ?_
    obtain ⟨t', ht', hq'⟩ := hG f c' s2 H2 Q v2 (fun E H' Q' => t E σ H' Q') (fun W pn xe E p1 p2 tk => pe_act3 (i := 0) J2 L hf2 hfn2 hfr (hbind _ _ _ _ _) tk hr' (fun A outer s H hr2 => hbody A outer s H E f c' hr2) hNg hva hd hcd) hc2 q2
    exact ⟨t', ht'.nox, hq'⟩
  refine wpAny_call (codeAny_mono rc ?_)
  intro r s3 hq
  cases r with
  | error e => exact (show False from hq).elim
  | ok fl =>
    cases fl with
    | ret u => exact J2.after hq
    | next => exact False.elim hq
    | brk => exact False.elim hq
    | cont => exact False.elim hq
end
end LamX
end
section
set_option maxRecDepth 100000
set_option maxHeartbeats 4000000
namespace L2
open PySem PySem.Spec PyProof.Rows
/-! ### defs that make lambdas -/
section
variable {P : Program} {w : World} {K : PySem.W.Frag} {mg : Str → Option Value} {base : Heap} {CX : CXT} {k j : Nat} {x : Str} {ps N : List Str} {sp : Sp} {st : Stmt} {cc : Addr}
/-- a def that lets nothing out, its code object known -/
theorem Ok.defC (e : ∃ f fd, FnP K x st f fd ∧ mg x = some (.ref f) ∧ fd.code = .ref cc)
    (hb : ∀ (kV doc pm : Value) (an : Option Addr) (cdv ct : Value) (us : List Value), us.length = ps.length → bindArgs (PySem.W.fnOf x x (defArgs st) (defBody st) (defScope st) .none kV doc pm an cdv ct) ⟨us, []⟩ = pure (ps.zip us))
    (S : FnScope N ps (defScope st)) (len : ∀ vs H Q E, sp vs H Q E → vs.length = ps.length)
    (hbody : ∀ (f : Addr) (A : Around) (outer : List Env) (s : Shared) (H : Hp) (vs : List V) (Q : VK) (E : XK), Room k (A.deeper (envOfC x (defScope st) s.heap.objs.size f (.ref cc))) → sp vs H Q E →
      ∃ t, PSs (cxOf CX0 P w K mg base N x (defScope st) f (.ref cc) A outer s H E).nox (defBody st) t ∧ t { nx := fun _ H' => Q .non H', rt := Q } (start N vs) H) : Ok P w K mg base CX0 (k + 1) x ps sp := by
  obtain ⟨f, fd, F, g, hc⟩ := e
  refine ⟨f, fd, ?_, g, F.kp, F.bindsN hb⟩
  obtain ⟨oc, od, dV, kV, doc, pm, an, cdv, ct, osl, rfl, lk, hcd, _, _⟩ := F.ex
  obtain rfl : cdv = .ref cc := hc
  exact fn_of lk hcd S len fun A outer s H vs Q E hr hsp => by
    obtain ⟨t, h1, h2⟩ := hbody f A outer s H vs Q E hr hsp
    exact ⟨t, h1.nox, h2⟩
/-- a def of the top that asks that no repr is under way -/
structure OkG (P : Program) (w : World) (K : PySem.W.Frag) (mg : Str → Option Value) (base : Heap) (k : Nat) (x : Str) (ps : List Str) (sp : Sp) : Prop where
  ex : ∃ f fd, FnG P w K mg base k f fd ps sp ∧ mg x = some (.ref f) ∧ PySem.W.keepIn K (.ref f) = true ∧ Binds K fd ps []
theorem OkG.defC (e : ∃ f fd, FnP K x st f fd ∧ mg x = some (.ref f) ∧ fd.code = .ref cc)
    (hb : ∀ (kV doc pm : Value) (an : Option Addr) (cdv ct : Value) (us : List Value), us.length = ps.length → bindArgs (PySem.W.fnOf x x (defArgs st) (defBody st) (defScope st) .none kV doc pm an cdv ct) ⟨us, []⟩ = pure (ps.zip us))
    (S : FnScope N ps (defScope st)) (len : ∀ vs H Q E, sp vs H Q E → vs.length = ps.length)
    (hbody : ∀ (f : Addr) (A : Around) (outer : List Env) (s : Shared) (H : Hp) (vs : List V) (Q : VK), Room k (A.deeper (envOfC x (defScope st) s.heap.objs.size f (.ref cc))) → A.guards = some [] → sp vs H Q E0 →
      ∃ t, PSs (cxOf CX0 P w K mg base N x (defScope st) f (.ref cc) A outer s H E0).nox (defBody st) t ∧ t { nx := fun _ H' => Q .non H', rt := Q } (start N vs) H) : OkG P w K mg base (k + 1) x ps sp := by
  obtain ⟨f, fd, F, g, hc⟩ := e
  have B : Binds K fd ps [] := F.bindsN hb
  refine ⟨f, fd, ?_, g, F.kp, B⟩
  obtain ⟨oc, od, dV, kV, doc, pm, an, cdv, ct, osl, rfl, lk, hcd, _, _⟩ := F.ex
  obtain rfl : cdv = .ref cc := hc
  constructor
  · exact len
  · intro A outer s H args us vs Q hr hgd e0 hbt r hsp
    refine LamX.run_ofS lk hcd S hr e0 hbt r (len _ _ _ _ hsp) fun hr' => ?_
    obtain ⟨t, h, q⟩ := hbody f A outer s H vs Q hr' hgd hsp
    exact ⟨t, h.nox, q⟩
end
theorem pe_okG {X : Cx} {k : Nat} {x : Str} {ps : List Str} {sp : Sp} {p pos : Pos} {e : Expr} {es : List Expr} {t : TA} (O : OkG X.prog X.w X.K X.mg X.base k x ps sp) (hr : Room k X.A) (hgd : X.A.guards = some []) (hg : Gl X x) (ha : PA X (e :: es) t)
    (hdb : (x == ("__debug__" : Str)) = false := by decide) (he : starEach (e :: es) X.env = (false, eval e X.env) :: starEach es X.env := by rfl) (hpl : (backTo pos (starEach es X.env)).any (·.1) = false := by rfl) :
    PE X (.Call (.Name x p) (e :: es) [] pos) (tCallE sp t) := by
  obtain ⟨f, fd, F, hm, hk, hb⟩ := O.ex
  exact pe_callG F hr hgd hg hm hk hb ha hdb he hpl
end L2
namespace LamX
open PySem PySem.Spec PyProof.Rows L2
theorem Gives2.three {X : Cx} {Ng : List Str} {x : Str} {sg : Scope} {g : Addr} {cdg : Value} {bg : List Stmt} {a q : Str} {TT : (XK → Hp → VK → Prop) → (Hp → Prop) → V → Hp → VK → Prop} (h : Gives2 X Ng x sg g cdg bg a q TT) : Gives3 X Ng x sg g cdg bg a q TT := by
  intro f c' s H Q v2 tl hc hco hT
  exact h f c' s H Q v2 tl (fun W pn xe E p1 p2 tk hW => ⟨fun pins s' σ H' Q' I hq => (hc W pn xe E p1 p2 tk).run pins s' σ H' Q' I ⟨hq.1, hq.2.1, fun cls d H2 he => hW cls d _ H2 he, hq.2.2⟩⟩) hco hT
end LamX
end
section
set_option maxRecDepth 100000
set_option maxHeartbeats 4000000
namespace L2
open PySem PySem.Spec PyProof.Rows
section
variable {P : Program} {w : World} {K : PySem.W.Frag} {mg : Str → Option Value} {base : Heap}
abbrev stk (a b c : Int) : HO := .lst [.int a, .int b, .int c]
def Stk (H : Hp) (sa : Addr) : Prop := ∃ a b c, H sa = some (stk a b c)
theorem fmod_range (a : Int) {m : Int} (h : 0 < m) : 0 ≤ a.fmod m ∧ a.fmod m < m := by
  rw [Int.fmod_eq_emod_of_nonneg a (Int.le_of_lt h)]
  exact ⟨Int.emod_nonneg _ (by omega), Int.emod_lt_of_pos _ h⟩
def spDraw : Sp := fun vs H Q _ => ∃ (sa : Addr) (m : Int), vs = [.ref sa, .int m] ∧ 0 < m ∧ m < 1073741824 ∧ Stk H sa ∧ ∀ r a b c, 0 ≤ r → r < m → Q (.int r) (upd H sa (stk a b c))
def spStock (K : PySem.W.Frag) : Sp := fun vs H Q _ => ∃ (a : Addr) (ns : List Int) (at_ : Int), vs = [.ref a, .int at_] ∧ SqL K H a (ns.map V.int) ∧ ns.length ≤ 63 ∧ 0 ≤ at_ ∧ at_ ≤ 100 ∧
  ∀ p H', H p = none → Same H H' → Stk H' p → Q (.ref p) H'
theorem stk_upd {H : Hp} {sa : Addr} {a b c : Int} : Stk (upd H sa (stk a b c)) sa := ⟨a, b, c, upd_same⟩
theorem Stk.ne {H : Hp} {sa : Addr} (h : Stk H sa) : H sa ≠ none := by
  obtain ⟨a, b, c, h⟩ := h
  rw [h]
  exact fun z => by cases z
theorem Stk.but {H : Hp} {sa a : Addr} (h : Stk H sa) (n : sa ≠ a) {o : HO} : Stk (upd H a o) sa := by
  obtain ⟨x, y, z, h⟩ := h
  exact ⟨x, y, z, by rw [upd_ne n]; exact h⟩
theorem Stk.new {H : Hp} {sa a : Addr} (h : Stk H sa) (n : H a = none) {o : HO} : Stk (upd H a o) sa := h.but fun z => h.ne (z ▸ n)
theorem Stk.same {H H' : Hp} {sa : Addr} (h : Stk H sa) (e : Same H H') : Stk H' sa := by
  obtain ⟨x, y, z, h⟩ := h
  exact ⟨x, y, z, e _ _ h⟩
def Leaf (v w : V) : Prop := (∃ n, v = .int n ∧ w = .int n) ∨ (∃ s, v = .str s ∧ w = .str s)
def Comp (R : Hp → V → V → Prop) (H : Hp) (v w : V) : Prop := ∃ (a b : Addr) (xs ys : List V), v = .ref a ∧ w = .ref b ∧ ((H a = some (.lst xs) ∧ H b = some (.lst ys)) ∨ (H a = some (.tup xs) ∧ H b = some (.tup ys))) ∧ xs.length = ys.length ∧ ys.length ≤ 1000 ∧ ∀ (i : Nat) (x y : V), xs[i]? = some x → ys[i]? = some y → R H x y
def Mt : Nat → Hp → V → V → Prop
  | 0, _, v, w => Leaf v w
  | k + 1, H, v, w => Leaf v w ∨ Comp (Mt k) H v w
theorem Mt.same : ∀ {k : Nat} {H H' : Hp} {v w : V}, Same H H' → Mt k H v w → Mt k H' v w
  | 0, _, _, _, _, _, h => h
  | k + 1, _, _, _, _, e, .inl h => .inl h
  | k + 1, _, _, _, _, e, .inr ⟨a, b, xs, ys, e1, e2, h, hl, hz, hr⟩ => .inr ⟨a, b, xs, ys, e1, e2, h.imp (fun z => ⟨e _ _ z.1, e _ _ z.2⟩) (fun z => ⟨e _ _ z.1, e _ _ z.2⟩), hl, hz, fun i x y hx hy => Mt.same e (hr i x y hx hy)⟩
def spMt (R : Hp → V → V → Prop) : Sp := fun vs H Q _ => ∃ v w, vs = [v, w] ∧ R H v w ∧ ∀ H', Same H H' → Q (.bl true) H'
theorem k_ii : PySem.W.kitOne K (.type "int") (.type "int") = some true := kit_ty (by decide +kernel)
theorem k_ib : PySem.W.kitOne K (.type "int") (.type "bool") = some false := kit_ty (by decide +kernel)
theorem k_sb : PySem.W.kitOne K (.type "str") (.type "bool") = some false := kit_ty (by decide +kernel)
theorem k_si : PySem.W.kitOne K (.type "str") (.type "int") = some false := kit_ty (by decide +kernel)
theorem k_ss : PySem.W.kitOne K (.type "str") (.type "str") = some true := kit_ty (by decide +kernel)
theorem k_lb : PySem.W.kitOne K (.type "list") (.type "bool") = some false := kit_ty (by decide +kernel)
theorem k_li : PySem.W.kitOne K (.type "list") (.type "int") = some false := kit_ty (by decide +kernel)
theorem k_ls : PySem.W.kitOne K (.type "list") (.type "str") = some false := kit_ty (by decide +kernel)
theorem k_ld : PySem.W.kitOne K (.type "list") (.type "dict") = some false := kit_ty (by decide +kernel)
theorem k_lt : PySem.W.kitOne K (.type "list") (.type "tuple") = some false := kit_ty (by decide +kernel)
theorem k_ll : PySem.W.kitOne K (.type "list") (.type "list") = some true := kit_ty (by decide +kernel)
theorem k_tb : PySem.W.kitOne K (.type "tuple") (.type "bool") = some false := kit_ty (by decide +kernel)
theorem k_ti : PySem.W.kitOne K (.type "tuple") (.type "int") = some false := kit_ty (by decide +kernel)
theorem k_ts : PySem.W.kitOne K (.type "tuple") (.type "str") = some false := kit_ty (by decide +kernel)
theorem k_td : PySem.W.kitOne K (.type "tuple") (.type "dict") = some false := kit_ty (by decide +kernel)
theorem k_tt : PySem.W.kitOne K (.type "tuple") (.type "tuple") = some true := kit_ty (by decide +kernel)
theorem k_tl : PySem.W.kitOne K (.type "tuple") (.type "list") = some false := kit_ty (by decide +kernel)
theorem k_il : PySem.W.kitOne K (.type "int") (.type "list") = some false := kit_ty (by decide +kernel)
theorem k_it : PySem.W.kitOne K (.type "int") (.type "tuple") = some false := kit_ty (by decide +kernel)
theorem k_id : PySem.W.kitOne K (.type "int") (.type "dict") = some false := kit_ty (by decide +kernel)
theorem k_sl : PySem.W.kitOne K (.type "str") (.type "list") = some false := kit_ty (by decide +kernel)
theorem k_st : PySem.W.kitOne K (.type "str") (.type "tuple") = some false := kit_ty (by decide +kernel)
theorem k_sd : PySem.W.kitOne K (.type "str") (.type "dict") = some false := kit_ty (by decide +kernel)
theorem tx_int {H : Hp} (n : Int) : TyX K H (.int n) (.type "int") := .base (.int n)
theorem tx_str {H : Hp} (n : Str) : TyX K H (.str n) (.type "str") := .base (.str n)
theorem tx_lst {H : Hp} {a : Addr} {xs : List V} (h : H a = some (.lst xs)) : TyX K H (.ref a) (.type "list") := .base (.lst h)
theorem tx_tup {H : Hp} {a : Addr} {xs : List V} (h : H a = some (.tup xs)) : TyX K H (.ref a) (.type "tuple") := .base (.tup h)
def Leaf1 (v : V) : Prop := (∃ n, v = .int n) ∨ (∃ s, v = .str s)
theorem mt_ints {H : Hp} {a b : Addr} {ns : List Int} (hz : ns.length ≤ 1000) (ha : H a = some (.lst (ns.map V.int))) (hb : H b = some (.lst (ns.map V.int))) : Mt 1 H (.ref a) (.ref b) := by
  refine .inr ⟨a, b, _, _, rfl, rfl, .inl ⟨ha, hb⟩, rfl, by rw [ints_len]; exact hz, fun i x y hx hy => ?_⟩
  obtain ⟨n, _, rfl⟩ := ints_get hx
  rw [hx] at hy
  cases hy
  exact .inl ⟨n, rfl, rfl⟩
theorem new2 {H : Hp} {a : Addr} (o : HO) (h : H a = none) : Same H (upd H a o) ∧ upd H a o a = some o := ⟨same_new h, upd_same⟩
theorem pe_noway {X : Cx} {e : Expr} : PE X e (fun _ _ _ => False) := ⟨fun _ _ _ _ _ _ h => h.elim⟩
theorem ext_lst {H H' : Hp} {a : Addr} {xs : List V} (e : LamX.ExtN H H') (h : H a = some (.lst xs)) : H' a = some (.lst xs) := e _ _ h fun _ z => by cases z
theorem ext_tup {H H' : Hp} {a : Addr} {xs : List V} (e : LamX.ExtN H H') (h : H a = some (.tup xs)) : H' a = some (.tup xs) := e _ _ h fun _ z => by cases z
theorem ext_of {H H' : Hp} (e : Same H H') : LamX.ExtN H H' := fun b o h _ => e b o h
def Bx (sa : Addr) (H H' : Hp) : Prop := ∀ b o, H b = some o → (∀ ps, o ≠ .tbl ps) → b ≠ sa → H' b = some o
theorem ext_bx {sa : Addr} {H H1 H2 : Hp} (e : LamX.ExtN H H1) (n : H sa = none) (b : Bx sa H1 H2) : LamX.ExtN H H2 := fun c o h p => b c o (e c o h p) p (ne_of_none h n)
theorem ext_new {sa : Addr} {H H1 H1' H2 : Hp} (e : LamX.ExtN H H1) (n : H1 sa = none) (s : Same H1 H1') (b : Bx sa H1' H2) : LamX.ExtN H H2 := fun c o h p => b c o (s _ _ (e c o h p)) p (ne_of_none (e c o h p) n)
theorem ext_seq {K : PySem.W.Frag} {H H' : Hp} {a : Addr} {xs : List V} (e : LamX.ExtN H H') (h : SqL K H a xs) : SqL K H' a xs := by
  rcases h with (h | ⟨o, h⟩) | h
  · exact .inl (.inl (e _ _ h fun _ z => by cases z))
  · exact .inl (.inr ⟨o, e _ _ h fun _ z => by cases z⟩)
  · exact .inr h
theorem min2 (a b : Int) : (if b < a then b else a) = min a b := by omega
theorem max2 (a b : Int) : (if b > a then b else a) = max a b := by omega
theorem max1 (m : Int) : (if m > 1 then m else 1) = max 1 m := by omega
theorem Bx.of_but {sa : Addr} {H H' : Hp} (e : But sa H H') : Bx sa H H' := fun b o h _ n => e b o h n
theorem Bx.of_same {sa : Addr} {H H' : Hp} (e : Same H H') : Bx sa H H' := fun b o h _ _ => e b o h
theorem Bx.of_ext {sa : Addr} {H H' : Hp} (e : LamX.ExtN H H') : Bx sa H H' := fun b o h n _ => e b o h n
theorem Bx.trans {sa : Addr} {H H1 H2 : Hp} (a : Bx sa H H1) (b : Bx sa H1 H2) : Bx sa H H2 := fun c o h n m => b c o (a c o h n m) n m
theorem Bx.lst {sa : Addr} {H H' : Hp} {a : Addr} {xs : List V} (e : Bx sa H H') (n : a ≠ sa) (h : H a = some (.lst xs)) : H' a = some (.lst xs) := e _ _ h (fun _ z => by cases z) n
theorem Bx.tup {sa : Addr} {H H' : Hp} {a : Addr} {xs : List V} (e : Bx sa H H') (n : a ≠ sa) (h : H a = some (.tup xs)) : H' a = some (.tup xs) := e _ _ h (fun _ z => by cases z) n
theorem tabs_but {sa : Addr} {H H' : Hp} {Tb : List (Addr × Str)} (h : LamX.Tabs Tb H) (hs : Stk H sa) (e : But sa H H') : LamX.Tabs Tb H' := fun p hp => by
  obtain ⟨ps, hP, ht, hc⟩ := h p hp
  have hne : p.1 ≠ sa := fun z => by
    obtain ⟨x, y, w, hs⟩ := hs
    rw [z, hs] at hP
    cases hP
  exact ⟨ps, e _ _ hP hne, ht, fun pos cv q => by
    obtain ⟨c, h1, h2⟩ := hc pos cv q
    have hc : c ≠ sa := fun z => by
      obtain ⟨x, y, w, hs⟩ := hs
      rw [z, hs] at h2
      cases h2
    exact ⟨c, h1, e _ _ h2 hc⟩⟩
def PairT (H : Hp) (x : V) (c : Int × Int) : Prop := ∃ t, x = .ref t ∧ H t = some (.tup [.int c.1, .int c.2])
theorem ne_stk {H : Hp} {sa t : Addr} {o : HO} (hs : Stk H sa) (h : H t = some o) (n : ∀ xs, o ≠ .lst xs) : t ≠ sa := fun z => by
  obtain ⟨x, y, w, hs⟩ := hs
  rw [z, hs] at h
  exact n _ (Option.some.inj h).symm
theorem PairT.bx {sa : Addr} {H H' : Hp} (hs : Stk H sa) (e : Bx sa H H') {x : V} {c : Int × Int} (h : PairT H x c) : PairT H' x c := by
  obtain ⟨t, rfl, h⟩ := h
  exact ⟨t, rfl, e.tup (ne_stk hs h fun _ z => by cases z) h⟩
theorem PairT.same {H H' : Hp} (e : Same H H') {x : V} {c : Int × Int} (h : PairT H x c) : PairT H' x c := by
  obtain ⟨t, rfl, h⟩ := h
  exact ⟨t, rfl, e _ _ h⟩
theorem PairT.mut {H : Hp} {l : Addr} {xs : List V} {o : HO} (hl : H l = some (.lst xs)) {x : V} {c : Int × Int} (h : PairT H x c) : PairT (upd H l o) x c := by
  obtain ⟨t, rfl, h⟩ := h
  refine ⟨t, rfl, ?_⟩
  rw [upd_ne (fun z => by rw [z, hl] at h; cases h)]
  exact h
theorem PairT.r {K : PySem.W.Frag} {H : Hp} {x : V} {c : Int × Int} (h : PairT H x c) : PairR K H x c := by
  obtain ⟨t, rfl, h⟩ := h
  exact ⟨t, rfl, .inl (SqT.of h)⟩
theorem paired_mem {α β : Type} {R : α → β → Prop} {xs : List α} {ys : List β} (h : Paired R xs ys) {x : α} (hx : x ∈ xs) : ∃ y ∈ ys, R x y := by
  induction h with
  | nil => cases hx
  | cons a _ ih =>
    rcases List.mem_cons.mp hx with rfl | hx
    · exact ⟨_, List.mem_cons_self, a⟩
    · obtain ⟨y, hy, r⟩ := ih hx
      exact ⟨y, List.mem_cons_of_mem _ hy, r⟩
theorem paired_build {α β : Type} {R : α → β → Prop} {S : β → Prop} : ∀ (xs : List α), (∀ x ∈ xs, ∃ y, R x y ∧ S y) → ∃ ys, Paired R xs ys ∧ ∀ y ∈ ys, S y
  | [], _ => ⟨[], .nil, fun y hy => by cases hy⟩
  | x :: t, h => by
    obtain ⟨y, r, s⟩ := h x List.mem_cons_self
    obtain ⟨ys, rs, ss⟩ := paired_build t fun z hz => h z (List.mem_cons_of_mem _ hz)
    refine ⟨y :: ys, .cons r rs, fun z hz => ?_⟩
    rcases List.mem_cons.mp hz with rfl | hz
    · exact s
    · exact ss z hz
theorem paired_drop {α β : Type} {R : α → β → Prop} : ∀ (k : Nat) {xs : List α} {ys : List β}, Paired R xs ys → Paired R (xs.drop k) (ys.drop k)
  | 0, _, _, h => h
  | k + 1, _, _, .nil => .nil
  | k + 1, _, _, .cons a r => paired_drop k r
theorem paired_take {α β : Type} {R : α → β → Prop} : ∀ (k : Nat) {xs : List α} {ys : List β}, Paired R xs ys → Paired R (xs.take k) (ys.take k)
  | 0, _, _, _ => .nil
  | k + 1, _, _, .nil => .nil
  | k + 1, _, _, .cons a r => .cons a (paired_take k r)
def Er (C : Addr) (fl : Str) (v : V) (H : Hp) : XK := fun cls d H' => cls = .ref C ∧ ∃ d', d = some d' ∧ Same H H' ∧ H' d' = some (.xd [(fl, v)])
theorem rz_er {C : Addr} {fl : Str} {v : V} {H H1 : Hp} (e : Same H H1) : Rz (Er C fl v H) H1 C fl v := fun d H' s hd => ⟨rfl, d, rfl, e.trans s, hd⟩
theorem paired_rep {α β : Type} {R : α → β → Prop} {x : α} {c : β} (h : R x c) : ∀ n, Paired R (List.replicate n [x]).flatten (List.replicate n c)
  | 0 => .nil
  | n + 1 => .cons h (paired_rep h n)
theorem rep_ints (n : Nat) (z : Int) : (List.replicate n [V.int z]).flatten = (List.replicate n z).map V.int := by
  induction n with
  | zero => rfl
  | succ n ih => rw [List.replicate_succ, List.flatten_cons, ih]; rfl
theorem rep_len {α : Type} (n : Nat) (x : α) : (List.replicate n [x]).flatten.length = n := by
  induction n with
  | zero => rfl
  | succ n ih => rw [List.replicate_succ, List.flatten_cons, List.length_append, ih]; simp; omega
end
end L2
end
section
set_option maxRecDepth 100000
set_option maxHeartbeats 4000000
namespace L2
open PySem PySem.Spec PyProof.Rows
/-! ### methods and own classes by name -/
structure OkM (P : Program) (w : World) (K : PySem.W.Frag) (mg : Str → Option Value) (base : Heap) (CX : CXT) (k : Nat) (C : Addr) (m : Str) (ps : List Str) (sp : Sp) : Prop where
  ex : ∃ f fd, FnOk P w K mg base CX k f fd ps sp ∧ Meth K C m f ∧ Binds K fd ps []
structure OkK (P : Program) (w : World) (K : PySem.W.Frag) (mg : Str → Option Value) (base : Heap) (CX : CXT) (k : Nat) (x : Str) (C : Addr) (ps : List Str) (sp : Sp) : Prop where
  ex : ∃ f fd, FnOk P w K mg base CX k f fd ps sp ∧ Mk K C f ∧ mg x = some (.ref C) ∧ Binds K fd ps []
section
variable {X : Cx} {CX : CXT} {k : Nat} {C : Addr} {x m : Str} {ps : List Str} {sp : Sp} {E : XK} {p pos apos : Pos} {o e : Expr} {es : List Expr} {ta : TE} {t : TA}
theorem pe_okM {pl : Sem Bool} (O : OkM X.prog X.w X.K X.mg X.base CX k C m ps sp) (c : Cls X.K C) (he : PE X o ta) (hr : Room k X.A) (hx : Passes CX X E) (ha : PA X (e :: es) t)
    (hst : starEach (e :: es) X.env = (false, eval e X.env) :: starEach es X.env := by rfl) (hpl : (backTo pos (starEach es X.env)).any (·.1) = false := by rfl)
    (ht : eval (.Call (.Attribute o m apos) (e :: es) [] pos) X.env = (do
      let ov ← eval o X.env
      standAt apos.atName
      let (f, first) ← holding [ov] (getMethod ov m pl)
      callWith pos f first (backTo pos (starEach (e :: es) X.env)) (backToKw pos (keywordEach [] X.env))) := by rfl) : PE X (.Call (.Attribute o m apos) (e :: es) [] pos) (tMeth C m sp [] E ta t) := by
  obtain ⟨f, fd, F, M, B⟩ := O.ex
  exact pe_meth (pl := pl) he c M F hr B .nil hx ha hst hpl ht
theorem pe_okM0 {pl : Sem Bool} (O : OkM X.prog X.w X.K X.mg X.base CX k C m ps sp) (c : Cls X.K C) (he : PE X o ta) (hr : Room k X.A) (hx : Passes CX X E)
    (ht : eval (.Call (.Attribute o m apos) [] [] pos) X.env = (do
      let ov ← eval o X.env
      standAt apos.atName
      let (f, first) ← holding [ov] (getMethod ov m pl)
      callWith pos f first (backTo pos (starEach [] X.env)) (backToKw pos (keywordEach [] X.env))) := by rfl) : PE X (.Call (.Attribute o m apos) [] [] pos) (tMeth C m sp [] E ta tNil) := by
  obtain ⟨f, fd, F, M, B⟩ := O.ex
  exact pe_meth0 (pl := pl) he c M F hr B .nil hx ht
theorem pe_okK (O : OkK X.prog X.w X.K X.mg X.base CX k x C ps sp) (hr : Room (k + 1) X.A) (hg : Gl X x) (hx : Passes CX X E) (ha : PA X (e :: es) t) (hdb : (x == ("__debug__" : Str)) = false := by decide)
    (he : starEach (e :: es) X.env = (false, eval e X.env) :: starEach es X.env := by rfl) (hpl : (backTo pos (starEach es X.env)).any (·.1) = false := by rfl) : PE X (.Call (.Name x p) (e :: es) [] pos) (tMake C sp [] E t) := by
  obtain ⟨f, fd, F, M, hm, B⟩ := O.ex
  exact pe_make M F hr hg hm B .nil hx ha hdb he hpl
end
section
variable {P : Program} {w : World} {K : PySem.W.Frag} {mg : Str → Option Value} {base : Heap} {k : Nat} {C f : Addr} {m q x : Str} {ps N : List Str} {sp : Sp} {st : Stmt}
theorem OkM.def0 (e : ∃ fd, FnM K m q st f fd) (M : Meth K C m f)
    (hb : ∀ (kV doc pm : Value) (an : Option Addr) (cdv ct : Value) (us : List Value), us.length = ps.length → bindArgs (PySem.W.fnOf m q (defArgs st) (defBody st) (defScope st) .none kV doc pm an cdv ct) ⟨us, []⟩ = pure (ps.zip us))
    (S : FnScope N ps (defScope st)) (len : ∀ vs H Q E, sp vs H Q E → vs.length = ps.length)
    (hbody : ∀ (cdv : Value) (A : Around) (outer : List Env) (s : Shared) (H : Hp) (vs : List V) (Q : VK) (E : XK), Room k (A.deeper (envOfC q (defScope st) s.heap.objs.size f cdv)) → sp vs H Q E →
      ∃ t, PSs (cxOf CX0 P w K mg base N q (defScope st) f cdv A outer s H E).nox (defBody st) t ∧ t { nx := fun _ H' => Q .non H', rt := Q } (start N vs) H) : OkM P w K mg base CX0 (k + 1) C m ps sp := by
  obtain ⟨fd, F⟩ := e
  refine ⟨f, fd, F.ok S len fun cdv A outer s H vs Q E hr h => ?_, M, F.bindsN hb⟩
  obtain ⟨t, h1, h2⟩ := hbody cdv A outer s H vs Q E hr h
  exact ⟨t, h1.nox, h2⟩
theorem OkM.defX (e : ∃ fd, FnM K m q st f fd) (M : Meth K C m f)
    (hb : ∀ (kV doc pm : Value) (an : Option Addr) (cdv ct : Value) (us : List Value), us.length = ps.length → bindArgs (PySem.W.fnOf m q (defArgs st) (defBody st) (defScope st) .none kV doc pm an cdv ct) ⟨us, []⟩ = pure (ps.zip us))
    (S : FnScope N ps (defScope st)) (len : ∀ vs H Q E, sp vs H Q E → vs.length = ps.length)
    (hbody : ∀ (cdv : Value) (A : Around) (outer : List Env) (s : Shared) (H : Hp) (vs : List V) (Q : VK) (E : XK), Room k (A.deeper (envOfC q (defScope st) s.heap.objs.size f cdv)) → sp vs H Q E →
      Takes (cxOf (L2.CX P w) P w K mg base N q (defScope st) f cdv A outer s H E) (fun cls d _ H => E cls d H) →
      ∃ t, PSs (cxOf (L2.CX P w) P w K mg base N q (defScope st) f cdv A outer s H E) (defBody st) t ∧ t { nx := fun _ H' => Q .non H', rt := Q } (start N vs) H) : OkM P w K mg base (L2.CX P w) (k + 1) C m ps sp := by
  obtain ⟨fd, F⟩ := e
  exact ⟨f, fd, F.ok S len fun cdv A outer s H vs Q E hr h => hbody cdv A outer s H vs Q E hr h (takes_of rfl rfl rfl rfl), M, F.bindsN hb⟩
theorem OkK.defX (e : ∃ fd, FnM K m q st f fd) (M : Mk K C f) (g : mg x = some (.ref C))
    (hb : ∀ (kV doc pm : Value) (an : Option Addr) (cdv ct : Value) (us : List Value), us.length = ps.length → bindArgs (PySem.W.fnOf m q (defArgs st) (defBody st) (defScope st) .none kV doc pm an cdv ct) ⟨us, []⟩ = pure (ps.zip us))
    (S : FnScope N ps (defScope st)) (len : ∀ vs H Q E, sp vs H Q E → vs.length = ps.length)
    (hbody : ∀ (cdv : Value) (A : Around) (outer : List Env) (s : Shared) (H : Hp) (vs : List V) (Q : VK) (E : XK), Room k (A.deeper (envOfC q (defScope st) s.heap.objs.size f cdv)) → sp vs H Q E →
      Takes (cxOf (L2.CX P w) P w K mg base N q (defScope st) f cdv A outer s H E) (fun cls d _ H => E cls d H) →
      ∃ t, PSs (cxOf (L2.CX P w) P w K mg base N q (defScope st) f cdv A outer s H E) (defBody st) t ∧ t { nx := fun _ H' => Q .non H', rt := Q } (start N vs) H) : OkK P w K mg base (L2.CX P w) (k + 1) x C ps sp := by
  obtain ⟨fd, F⟩ := e
  exact ⟨f, fd, F.ok S len fun cdv A outer s H vs Q E hr h => hbody cdv A outer s H vs Q E hr h (takes_of rfl rfl rfl rfl), M, g, F.bindsN hb⟩
end
end L2
end
section
set_option maxRecDepth 100000
set_option maxHeartbeats 4000000
namespace K26
open PySem PySem.Spec PyProof.Rows L2
theorem lim_days : (("days" : Str), He.Dv.int 24) ∈ limits := List.mem_of_getElem? (i := 0) rfl
theorem lim_rains : (("rains" : Str), He.Dv.int 40) ∈ limits := List.mem_of_getElem? (i := 1) rfl
theorem lim_cans : (("cans" : Str), He.Dv.int (10 ^ 12)) ∈ limits := List.mem_of_getElem? (i := 2) rfl
section
variable {P : Program} {w : World} {K : PySem.W.Frag} {mg : Str → Option Value} {base : Heap}
abbrev cTM (K : PySem.W.Frag) : Addr := He.ga K "TooMany"
abbrev cSk (K : PySem.W.Frag) : Addr := He.ga K "BadSky"
abbrev cWe (K : PySem.W.Frag) : Addr := He.ga K "BadWeather"
abbrev cA (K : PySem.W.Frag) : Addr := He.ga K "Almanac"
theorem x_TooMany (T : Txt w K mg) : XOk P w K mg base 1 "TooMany" (cTM K) ["self", "what"] (spInit (cTM K) "what") := by
  obtain ⟨fd, F⟩ := fi_TooMany T
  refine ⟨_, fd, xt_TooMany T, F.ok (CX := CX0) sc_TooMany___init__ (fun vs H Q E h => ?_) (fun cdv A outer s H vs Q E hr h => ?_), g_TooMany T, F.bindsN (fun _ _ _ _ _ _ us hl => match us, hl with | [_, _], _ => rfl)⟩
  · obtain ⟨a, v, rfl, _⟩ := h
    rfl
  · obtain ⟨a, v, rfl, ha, k⟩ := h
    refine ⟨_, PSs.nox (pss_cons (ps_expr (pe_seinit (se T) rfl (g_SeenError T) (pa_cons (pv 0) (pa_cons pe_str pa_nil))))
      (pss_one (ps_ost (pv 0) (pv 1)))), ?_⟩
    refine ⟨_, rfl, a, cTM K, [.str _], rfl, (by show 1 ≤ 1000; decide), (xt_TooMany T).oex, ha, ?_⟩
    exact ⟨_, rfl, _, rfl, a, cTM K, rfl, (xt_TooMany T).oex, xn_TooMany_what T, .inl ⟨ha, fun dx hd hne => k dx hd hne⟩⟩
theorem x_BadSky (T : Txt w K mg) : XOk P w K mg base 1 "BadSky" (cSk K) ["self", "row"] (spInit (cSk K) "row") := by
  obtain ⟨fd, F⟩ := fi_BadSky T
  refine ⟨_, fd, xt_BadSky T, F.ok (CX := CX0) sc_BadSky___init__ (fun vs H Q E h => ?_) (fun cdv A outer s H vs Q E hr h => ?_), g_BadSky T, F.bindsN (fun _ _ _ _ _ _ us hl => match us, hl with | [_, _], _ => rfl)⟩
  · obtain ⟨a, v, rfl, _⟩ := h
    rfl
  · obtain ⟨a, v, rfl, ha, k⟩ := h
    refine ⟨_, PSs.nox (pss_cons (ps_expr (pe_seinit (se T) rfl (g_SeenError T) (pa_cons (pv 0) (pa_cons pe_str pa_nil))))
      (pss_one (ps_ost (pv 0) (pv 1)))), ?_⟩
    refine ⟨_, rfl, a, cSk K, [.str _], rfl, (by show 1 ≤ 1000; decide), (xt_BadSky T).oex, ha, ?_⟩
    exact ⟨_, rfl, _, rfl, a, cSk K, rfl, (xt_BadSky T).oex, xn_BadSky_row T, .inl ⟨ha, fun dx hd hne => k dx hd hne⟩⟩
theorem x_BadWeather (T : Txt w K mg) : XOk P w K mg base 1 "BadWeather" (cWe K) ["self", "day"] (spInit (cWe K) "day") := by
  obtain ⟨fd, F⟩ := fi_BadWeather T
  refine ⟨_, fd, xt_BadWeather T, F.ok (CX := CX0) sc_BadWeather___init__ (fun vs H Q E h => ?_) (fun cdv A outer s H vs Q E hr h => ?_), g_BadWeather T, F.bindsN (fun _ _ _ _ _ _ us hl => match us, hl with | [_, _], _ => rfl)⟩
  · obtain ⟨a, v, rfl, _⟩ := h
    rfl
  · obtain ⟨a, v, rfl, ha, k⟩ := h
    refine ⟨_, PSs.nox (pss_cons (ps_expr (pe_seinit (se T) rfl (g_SeenError T) (pa_cons (pv 0) (pa_cons pe_str pa_nil))))
      (pss_one (ps_ost (pv 0) (pv 1)))), ?_⟩
    refine ⟨_, rfl, a, cWe K, [.str _], rfl, (by show 1 ≤ 1000; decide), (xt_BadWeather T).oex, ha, ?_⟩
    exact ⟨_, rfl, _, rfl, a, cWe K, rfl, (xt_BadWeather T).oex, xn_BadWeather_day T, .inl ⟨ha, fun dx hd hne => k dx hd hne⟩⟩
def spCheck (K : PySem.W.Frag) : Sp := fun vs H Q E => ∃ (z : Str) (n m : Int), vs = [.str z, .int n] ∧ (z, He.Dv.int m) ∈ limits ∧ (n ≤ m → Q .non H) ∧ (m < n → Rz E H (cTM K) "what" (.str z))
theorem ok_check (T : Txt w K mg) : Ok P w K mg base (L2.CX P w) 4 "check" ["what", "number"] (spCheck K) := by
  refine Ok.defX (f_check T) (fun _ _ _ _ _ _ us hl => match us, hl with | [_, _], _ => rfl) sc_check (fun vs H Q E h => ?_) (fun f cdv A outer s H vs Q E hr h tk => ?_)
  · obtain ⟨z, n, m, rfl, _⟩ := h
    rfl
  · obtain ⟨z, n, m, rfl, hz, k1, k2⟩ := h
    refine ⟨_, (pss_one (ps_if (pt_cmpR op_gt (pv 1) (pe_ix ix_kdict (pe_glob (v := .ref _) rfl (g_LIMITS T) rfl) (pv 0) (fun _ _ => rfl)) (nomark _)) (pss_one (ps_raise rfl tk (pmk_x (x_TooMany T) (hr.mono (by first | decide | omega)) rfl (pa_cons (pv 0) pa_nil)))) pss_nil)), ?_⟩
    refine ⟨_, rfl, _, rfl, _, z, .int m, rfl, rfl, lim T hz, _, _, rfl, rfl, _, rfl, ?_⟩
    refine ite2 (fun c => ?_) (fun c => ?_)
    · exact ⟨_, rfl, mko ((k2 (of_decide_eq_true c)).at (Same.refl H))⟩
    · exact k1 (by simpa using c)
end
end K26
end
section
set_option maxRecDepth 100000
set_option maxHeartbeats 4000000
namespace K26
open PySem PySem.Spec PyProof.Rows L2
section
variable {P : Program} {w : World} {K : PySem.W.Frag} {mg : Str → Option Value} {base : Heap}
theorem ok__law_draw (T : Txt w K mg) : Ok P w K mg base CX0 1 "_law_draw" ["stock", "many"] spDraw := by
  refine Ok.def0 (f__law_draw T) (fun _ _ _ _ _ _ us hl => match us, hl with | [_, _], _ => rfl) sc__law_draw (fun vs H Q E h => ?_) (fun f cdv A outer s H vs Q E hr h => ?_)
  · obtain ⟨sa, m, rfl, _⟩ := h
    rfl
  · obtain ⟨sa, m, rfl, h0, h1, ⟨a, b, c, hs⟩, k⟩ := h
    have hm : m ≠ 0 := by omega
    refine ⟨_, (pss_cons (ps_if (pt_cmpR op_gt (pe_ix (ix_listK (K := K) rfl) (pv 0) pe_int (fun _ _ => rfl)) pe_int (nomark _)) (pss_cons (ps_set (i := 2) sc__law_draw.nd rfl (by first | exact Or.inl rfl | exact Or.inr rfl) (pe_op op_modN (pe_callTy call_int1 rfl (n_int T) (by decide +kernel) (pa_cons (pe_ix (ix_listK (K := K) rfl) (pv 0) pe_int (fun _ _ => rfl)) pa_nil)) (pv 1)))
      (pss_cons (ps_asg (pe_op op_fdivN (pe_ix (ix_listK (K := K) rfl) (pv 0) pe_int (fun _ _ => rfl)) (pv 1)) (pg_sub (pv 0) pe_int set_list))
      (pss_one (ps_ret (pv 2))))) pss_nil)
      (pss_cons (ps_augS (pv 0) pe_int (get_listK (K := K) rfl) pe_int ip_add set_list)
      (pss_cons (ps_asg (pe_op op_modN (pe_callTy call_int1 rfl (n_int T) (by decide +kernel) (pa_cons (pe_op op_add (pe_op op_mul (pe_ix (ix_listK (K := K) rfl) (pv 0) pe_int (fun _ _ => rfl)) pe_int) (pe_op op_mul (pe_ix (ix_listK (K := K) rfl) (pv 0) pe_int (fun _ _ => rfl)) pe_int)) pa_nil)) pe_int) (pg_sub (pv 0) pe_int set_list))
      (pss_one (ps_ret (pe_op op_modN (pe_op op_fdivN (pe_op op_modN (pe_callTy call_int1 rfl (n_int T) (by decide +kernel) (pa_cons (pe_op op_add (pe_op op_mul (pe_ix (ix_listK (K := K) rfl) (pv 0) pe_int (fun _ _ => rfl)) pe_int) (pe_op op_mul (pe_ix (ix_listK (K := K) rfl) (pv 0) pe_int (fun _ _ => rfl)) pe_int)) pa_nil)) pe_int) pe_int) (pv 1))))))), ?_⟩
    refine ⟨_, rfl, sa, _, 0, _, rfl, rfl, SqL.of hs, rfl, _, _, rfl, rfl, _, rfl, ?_⟩
    refine ite2 (fun c1 => ?_) (fun c1 => ?_)
    · refine ⟨_, rfl, sa, _, 0, _, rfl, rfl, SqL.of hs, rfl, .inl ⟨_, rfl, _, rfl, _, _, rfl, rfl, hm, ?_⟩⟩
      refine ⟨_, rfl, sa, _, 0, _, rfl, rfl, SqL.of hs, rfl, _, rfl, _, _, rfl, rfl, ⟨hm, by omega⟩, _, rfl, sa, _, 0, 0, rfl, rfl, hs, rfl, ?_⟩
      refine ⟨_, rfl, k _ _ _ _ (fmod_range a h0).1 (fmod_range a h0).2⟩
    · refine ⟨_, rfl, sa, _, 2, _, rfl, rfl, SqL.of hs, rfl, _, _, rfl, rfl, sa, _, 2, 2, rfl, rfl, hs, rfl, ?_⟩
      refine ⟨_, rfl, sa, _, 1, _, rfl, rfl, SqL.of upd_same, rfl, _, _, rfl, rfl, .inr (by decide), _, rfl, sa, _, 2, _, rfl, rfl, SqL.of upd_same, rfl, _, _, rfl, rfl, .inr (by decide), _, _, rfl, rfl, .inl ⟨_, rfl, _, _, rfl, rfl, (by show (2147483647 : Int) ≠ 0; decide), _, rfl, sa, _, 1, 1, rfl, rfl, upd_same, rfl, ?_⟩⟩
      refine ⟨_, rfl, sa, _, 1, _, rfl, rfl, SqL.of upd_same, rfl, _, _, rfl, rfl, .inr (by decide), _, rfl, sa, _, 2, _, rfl, rfl, SqL.of upd_same, rfl, _, _, rfl, rfl, .inr (by decide), _, _, rfl, rfl, .inl ⟨_, rfl, _, _, rfl, rfl, (by show (2147483629 : Int) ≠ 0; decide), _, _, rfl, rfl, ⟨by decide, by decide⟩, _, rfl, _, _, rfl, rfl, hm, ?_⟩⟩
      rw [upd_upd]
      exact k _ _ _ _ (fmod_range _ h0).1 (fmod_range _ h0).2
theorem ok__law_stock (T : Txt w K mg) : Ok P w K mg base CX0 1 "_law_stock" ["script", "at"] (spStock K) := by
  refine Ok.def0 (f__law_stock T) (fun _ _ _ _ _ _ us hl => match us, hl with | [_, _], _ => rfl) sc__law_stock (fun vs H Q E h => ?_) (fun f cdv A outer s H vs Q E hr h => ?_)
  · obtain ⟨a, ns, z, rfl, _⟩ := h
    rfl
  · obtain ⟨a, ns, z, rfl, hS, hl, h0, h1, k⟩ := h
    refine ⟨_, (pss_cons (ps_set (i := 3) sc__law_stock.nd rfl (by first | exact Or.inl rfl | exact Or.inr rfl) (pe_ifExp (pt_cmpR op_lt (pv 1) (pe_callB (len_seqK (K := K) rfl) rfl (n_len T) (by decide +kernel) (pa_cons (pv 0) pa_nil)) (nomark _)) (pe_callTy call_int1 rfl (n_int T) (by decide +kernel) (pa_cons (pe_ix (ix_listK (K := K) rfl) (pv 0) (pv 1) (fun _ _ => rfl)) pa_nil)) (pe_op op_mul pe_int (pe_callB (sumK (K := K) rfl rfl) rfl (n_sum T) (by decide +kernel) (pa_cons (pe_lc (own := [("one", 2)]) rfl sc__law_stock.nd (pi_listK (K := K) rfl (pe_slice (sl_listK (K := K) rfl) (pv 0) po_none (po_some pe_int))) (blkOk_by (N := ["script", "at", "one", "cell", "size", "small"]) (sc := defScope s__law_stock) (by decide +kernel)) (fun _ _ _ _ _ => (pg_name (i := 2) sc__law_stock.nd rfl (by first | exact Or.inl rfl | exact Or.inr rfl))) (fun _ _ _ _ _ => pts_nil) (fun _ _ _ _ _ => (pe_op op_modN (pe_callTy call_int1 rfl (n_int T) (by decide +kernel) (pa_cons (pv 2) pa_nil)) pe_int))) pa_nil)))))
      (pss_cons (ps_set (i := 4) sc__law_stock.nd rfl (by first | exact Or.inl rfl | exact Or.inr rfl) (pe_callB call_abs rfl (n_abs T) (by decide +kernel) (pa_cons (pv 3) pa_nil)))
      (pss_cons (ps_set (i := 5) sc__law_stock.nd rfl (by first | exact Or.inl rfl | exact Or.inr rfl) (pe_op op_modN (pe_callTy call_int1 rfl (n_int T) (by decide +kernel) (pa_cons (pe_op op_add (pe_op op_add (pe_op op_add (pe_op op_mul pe_int (pv 4)) (pe_ifExp (pt_cmpR op_lt (pv 3) pe_int (nomark _)) pe_int pe_int)) (pe_op op_mul (pv 1) pe_int)) pe_int) pa_nil)) pe_int))
      (pss_one (ps_ret (pe_lst (pa_cons (pe_ifExp (pt_cmpR op_ge (pv 4) (pe_op op_pow pe_int pe_int) (nomark _)) (pv 4) pe_int) (pa_cons (pe_op op_modN (pe_callTy call_int1 rfl (n_int T) (by decide +kernel) (pa_cons (pe_op op_mul (pe_op op_add (pv 5) pe_int) (pe_op op_add (pv 5) pe_int)) pa_nil)) pe_int) (pa_cons (pv 1) pa_nil))))))))), ?_⟩
    refine st_let (fun v H' => ∃ c, v = .int c ∧ Same H H') (fun R hR => ?_) (fun v H1 hv => ?_)
    · refine ⟨_, rfl, _, rfl, _, _, rfl, .inl hS, _, _, rfl, rfl, _, rfl, ?_⟩
      refine ite2 (fun c1 => ?_) (fun c1 => ?_)
      · have c2 : z < (ns.map V.int).length := of_decide_eq_true c1
        rw [ints_len] at c2
        obtain ⟨n, hn⟩ : ∃ n, ns[z.toNat]? = some n := ⟨ns[z.toNat]'(by omega), List.getElem?_eq_getElem (by omega)⟩
        exact ⟨_, rfl, _, rfl, a, _, z, _, rfl, rfl, hS, atI_int h0 (ints_at hn), .inl ⟨_, rfl, hR _ _ ⟨_, rfl, Same.refl H⟩⟩⟩
      · obtain ⟨ms, e1, e2⟩ := cutV_map V.int ns none (some 4)
        refine ⟨_, rfl, _, rfl, a, _, rfl, hS, fun p hp => ?_⟩
        rw [e1]
        have s1 : Same H (upd H p (.lst (ms.map V.int))) := same_new hp
        refine ⟨p, rfl, ⟨_, SqL.of upd_same⟩, fun D hD => lc_acc (K := K) (a := p) (xs := ms.map V.int) hD (SqL.of upd_same) (by rw [ints_len, e2]; exact Nat.lt_of_le_of_lt (List.length_take_le' _ _) (by rw [List.length_drop]; omega)) (fun i acc H' => ∃ zs : List Int, acc = zs.map V.int) (fun _ _ => ⟨[], rfl⟩) ?_ ?_⟩
        · rintro i x acc H' N N0 hx s2 hacc ⟨zs, rfl⟩ hN hN0
          obtain ⟨y, hy, rfl⟩ := ints_get hx
          refine ⟨rfl, ?_⟩
          exact ⟨_, rfl, .inl ⟨_, rfl, _, _, rfl, rfl, (by show (1000003 : Int) ≠ 0; decide), hN _ _ (Same.refl _) fun _ _ _ => ⟨zs ++ [y.fmod 1000003], by rw [List.map_append]; rfl⟩⟩⟩
        · rintro acc H' s2 hacc _ ⟨zs, rfl⟩
          exact ⟨D, zs, rfl, SqL.of hacc, _, _, rfl, rfl, .inl (by decide), hR _ _ ⟨_, rfl, s1.trans s2⟩⟩
    · obtain ⟨c, rfl, s1⟩ := hv
      -- size = abs(cell)
      refine ⟨_, rfl, _, rfl, ?_⟩
      generalize hsz : (if c < 0 then -c else c) = size
      -- small = ..
      refine nxE (st_let (fun v H' => ∃ d : Int, v = .int d ∧ 0 ≤ d ∧ d < 2147483629 ∧ H' = H1) (fun R hR => ?_) (fun v H2 hv => ?_))
      · refine ⟨_, rfl, _, _, rfl, rfl, .inl (by decide), ?_⟩
        have fin : ∀ k : Int, R (.int ((2 * size + k + z * 104729 + 12345).fmod 2147483629)) H1 := fun k => hR _ _ ⟨_, rfl, (fmod_range _ (by decide)).1, (fmod_range _ (by decide)).2, rfl⟩
        refine ⟨_, rfl, _, _, rfl, rfl, _, rfl, ?_⟩
        refine ite2 (fun c1 => ?_) (fun c1 => ?_)
        · exact ⟨_, _, rfl, rfl, _, rfl, _, _, rfl, rfl, .inr (by decide), _, _, rfl, rfl, _, _, rfl, rfl, .inl ⟨_, rfl, _, _, rfl, rfl, (by show (2147483629 : Int) ≠ 0; decide), fin 1⟩⟩
        · exact ⟨_, _, rfl, rfl, _, rfl, _, _, rfl, rfl, .inr (by decide), _, _, rfl, rfl, _, _, rfl, rfl, .inl ⟨_, rfl, _, _, rfl, rfl, (by show (2147483629 : Int) ≠ 0; decide), fin 0⟩⟩
      · obtain ⟨d, rfl, d0, d1, rfl⟩ := hv
        -- return [..]
        have fin : ∀ e : Int, ∀ p, H2 p = none → Q (.ref p) (upd H2 p (.lst [.int e, .int (((d + 7919) * (d + 104729)).fmod 2147483629), .int z])) := fun e p hp => k p _ (s1.free hp) (s1.trans (same_new hp)) ⟨_, _, _, upd_same⟩
        refine ⟨_, rfl, _, _, rfl, rfl, ⟨by decide, by decide, by decide⟩, _, _, rfl, rfl, _, rfl, ?_⟩
        refine ite2 (fun c1 => ?_) (fun c1 => ?_)
        · exact ⟨_, rfl, _, rfl, _, _, rfl, rfl, _, rfl, _, _, rfl, rfl, _, _, rfl, rfl, .inl ⟨by show -(2 ^ 64) < d + 7919; omega, by show d + 7919 < 2 ^ 64; omega⟩, .inl ⟨_, rfl, _, _, rfl, rfl, (by show (2147483629 : Int) ≠ 0; decide), _, rfl, (by show 3 ≤ sizeLine; decide), fun p hp => fin _ p hp⟩⟩
        · exact ⟨_, rfl, _, _, rfl, rfl, _, rfl, _, _, rfl, rfl, _, _, rfl, rfl, .inl ⟨by show -(2 ^ 64) < d + 7919; omega, by show d + 7919 < 2 ^ 64; omega⟩, .inl ⟨_, rfl, _, _, rfl, rfl, (by show (2147483629 : Int) ≠ 0; decide), _, rfl, (by show 3 ≤ sizeLine; decide), fun p hp => fin _ p hp⟩⟩
end
end K26
end
section
set_option maxRecDepth 100000
set_option maxHeartbeats 4000000
namespace K26
open PySem PySem.Spec PyProof.Rows L2
section
variable {P : Program} {w : World} {K : PySem.W.Frag} {mg : Str → Option Value} {base : Heap}
theorem mt_gen {k : Nat} {sp0 : Sp} {R : Hp → V → V → Prop} (T : Txt w K mg) (ok__law_matches : Txt w K mg → Ok P w K mg base CX0 k "_law_matches" ["answer", "due"] sp0) (hR : ∀ H v u Q, R H v u → (∀ H', Same H H' → Q (.bl true) H') → sp0 [v, u] H Q E0)
    (hS : ∀ H H' v u, Same H H' → R H v u → R H' v u) : Ok P w K mg base CX0 (k + 1) "_law_matches" ["answer", "due"] (spMt fun H v u => Leaf v u ∨ Comp R H v u) := by
  refine Ok.def0 (f__law_matches T) (fun _ _ _ _ _ _ us hl => match us, hl with | [_, _], _ => rfl) sc__law_matches (fun vs H Q E h => ?_) (fun f cdv A outer s H vs Q E hr h => ?_)
  · obtain ⟨v, u, rfl, _⟩ := h
    rfl
  · obtain ⟨v, u, rfl, h, q⟩ := h
    refine ⟨_, (pss_cons (ps_if (PW.pt (pw_or (pt_cmpR op_isN (pv 1) pe_non (nomark _)) (pw_or1 (pt_cmpR op_isN (pv 0) pe_non (nomark _))))) (pss_one (ps_ret (pe_and (pe_cmpR op_isN (pv 1) pe_non (nomark _)) (pe_one (pe_cmpR op_isN (pv 0) pe_non (nomark _)))))) pss_nil)
      (pss_cons (ps_if (PW.pt (pw_or (pt_val (pe_callB (isiK (K := K) rfl) rfl (n_isinstance T) (by decide +kernel) (pa_cons (pv 1) (pa_cons (pe_bltn (v := .ty "bool") (u := .type "bool") rfl (n_bool T) (by decide +kernel) rfl) pa_nil)))) (pw_or1 (pt_val (pe_callB (isiK (K := K) rfl) rfl (n_isinstance T) (by decide +kernel) (pa_cons (pv 0) (pa_cons (pe_bltn (v := .ty "bool") (u := .type "bool") rfl (n_bool T) (by decide +kernel) rfl) pa_nil))))))) (pss_one (ps_ret (pe_and (pe_callB (isiK (K := K) rfl) rfl (n_isinstance T) (by decide +kernel) (pa_cons (pv 1) (pa_cons (pe_bltn (v := .ty "bool") (u := .type "bool") rfl (n_bool T) (by decide +kernel) rfl) pa_nil))) (pe_and (pe_callB (isiK (K := K) rfl) rfl (n_isinstance T) (by decide +kernel) (pa_cons (pv 0) (pa_cons (pe_bltn (v := .ty "bool") (u := .type "bool") rfl (n_bool T) (by decide +kernel) rfl) pa_nil))) (pe_one (pe_cmpR op_eq (pv 0) (pv 1) (nomark _))))))) pss_nil)
      (pss_cons (ps_if (pt_val (pe_callB (isiK (K := K) rfl) rfl (n_isinstance T) (by decide +kernel) (pa_cons (pv 1) (pa_cons (pe_bltn (v := .ty "int") (u := .type "int") rfl (n_int T) (by decide +kernel) rfl) pa_nil)))) (pss_one (ps_ret (pe_and (pe_callB (isiK (K := K) rfl) rfl (n_isinstance T) (by decide +kernel) (pa_cons (pv 0) (pa_cons (pe_bltn (v := .ty "int") (u := .type "int") rfl (n_int T) (by decide +kernel) rfl) pa_nil))) (pe_one (pe_cmpR op_eq (pv 0) (pv 1) (nomark _)))))) pss_nil)
      (pss_cons (ps_if (pt_val (pe_callB (isiK (K := K) rfl) rfl (n_isinstance T) (by decide +kernel) (pa_cons (pv 1) (pa_cons (pe_bltn (v := .ty "str") (u := .type "str") rfl (n_str T) (by decide +kernel) rfl) pa_nil)))) (pss_one (ps_ret (pe_and (pe_callB (isiK (K := K) rfl) rfl (n_isinstance T) (by decide +kernel) (pa_cons (pv 0) (pa_cons (pe_bltn (v := .ty "str") (u := .type "str") rfl (n_str T) (by decide +kernel) rfl) pa_nil))) (pe_one (pe_cmpR op_eq (pv 0) (pv 1) (nomark _)))))) pss_nil)
      (pss_cons (ps_if (pt_val (pe_callB (isiK (K := K) rfl) rfl (n_isinstance T) (by decide +kernel) (pa_cons (pv 1) (pa_cons (pe_bltn (v := .ty "dict") (u := .type "dict") rfl (n_dict T) (by decide +kernel) rfl) pa_nil)))) (pss_cons (ps_if (PW.pt (pw_or (pt_not (pt_val (pe_callB (isiK (K := K) rfl) rfl (n_isinstance T) (by decide +kernel) (pa_cons (pv 0) (pa_cons (pe_bltn (v := .ty "dict") (u := .type "dict") rfl (n_dict T) (by decide +kernel) rfl) pa_nil))))) (pw_or1 (pt_cmpR op_ne (pe_callB (len_seqK (K := K) rfl) rfl (n_len T) (by decide +kernel) (pa_cons (pv 0) pa_nil)) (pe_callB (len_seqK (K := K) rfl) rfl (n_len T) (by decide +kernel) (pa_cons (pv 1) pa_nil)) (nomark _))))) (pss_one (ps_ret pe_bl)) pss_nil)
      (pss_cons (ps_for PassesOwn.never rfl (pi_listK (K := K) rfl (pe_callTy (list_ofK (K := K) rfl) rfl (n_list T) (by decide +kernel) (pa_cons (pv 1) pa_nil))) (pg_name (i := 2) sc__law_matches.nd rfl (by first | exact Or.inl rfl | exact Or.inr rfl))
        (pss_one (ps_if (PW.pt (pw_or (pt_cmpR op_notIn_seq (pv 2) (pv 0) (by with_unfolding_all rfl)) (pw_or1 (pt_not (pt_val (pe_ok (ok__law_matches T) (hr.mono (by first | decide | omega)) rfl pass0 (pa_cons (pe_ix (ix_seqK (K := K) rfl) (pv 0) (pv 2) (fun _ _ => rfl)) (pa_cons (pe_ix (ix_seqK (K := K) rfl) (pv 1) (pv 2) (fun _ _ => rfl)) pa_nil)))))))) (pss_one (ps_ret pe_bl)) pss_nil)))
      (pss_one (ps_ret pe_bl)))) pss_nil)
      (pss_cons (ps_if (PW.pt (pw_and (pt_val (pe_callB (isiK (K := K) rfl) rfl (n_isinstance T) (by decide +kernel) (pa_cons (pv 1) (pa_cons (pe_bltn (v := .ty "tuple") (u := .type "tuple") rfl (n_tuple T) (by decide +kernel) rfl) pa_nil)))) (pw_and1 (pt_not (pt_val (pe_callB (isiK (K := K) rfl) rfl (n_isinstance T) (by decide +kernel) (pa_cons (pv 0) (pa_cons (pe_bltn (v := .ty "tuple") (u := .type "tuple") rfl (n_tuple T) (by decide +kernel) rfl) pa_nil)))))))) (pss_one (ps_ret pe_bl)) pss_nil)
      (pss_cons (ps_if (PW.pt (pw_and (pt_val (pe_callB (isiK (K := K) rfl) rfl (n_isinstance T) (by decide +kernel) (pa_cons (pv 1) (pa_cons (pe_bltn (v := .ty "list") (u := .type "list") rfl (n_list T) (by decide +kernel) rfl) pa_nil)))) (pw_and1 (pt_not (pt_val (pe_callB (isiK (K := K) rfl) rfl (n_isinstance T) (by decide +kernel) (pa_cons (pv 0) (pa_cons (pe_bltn (v := .ty "list") (u := .type "list") rfl (n_list T) (by decide +kernel) rfl) pa_nil)))))))) (pss_one (ps_ret pe_bl)) pss_nil)
      (pss_cons (ps_if (pt_cmpR op_ne (pe_callB (len_seqK (K := K) rfl) rfl (n_len T) (by decide +kernel) (pa_cons (pv 0) pa_nil)) (pe_callB (len_seqK (K := K) rfl) rfl (n_len T) (by decide +kernel) (pa_cons (pv 1) pa_nil)) (nomark _)) (pss_one (ps_ret pe_bl)) pss_nil)
      (pss_cons (ps_for PassesOwn.never rfl (pi_range1 rfl (n_range T) (pa_cons (pe_callB (len_seqK (K := K) rfl) rfl (n_len T) (by decide +kernel) (pa_cons (pv 1) pa_nil)) pa_nil)) (pg_name (i := 3) sc__law_matches.nd rfl (by first | exact Or.inl rfl | exact Or.inr rfl))
        (pss_one (ps_if (pt_not (pt_val (pe_ok (ok__law_matches T) (hr.mono (by first | decide | omega)) rfl pass0 (pa_cons (pe_ix (ix_seqK (K := K) rfl) (pv 0) (pv 3) (fun _ _ => rfl)) (pa_cons (pe_ix (ix_seqK (K := K) rfl) (pv 1) (pv 3) (fun _ _ => rfl)) pa_nil))))) (pss_one (ps_ret pe_bl)) pss_nil)))
      (pss_one (ps_ret pe_bl))))))))))), ?_⟩
    rcases h with h | h
    · rcases h with ⟨n, rfl, rfl⟩ | ⟨z, rfl, rfl⟩
      · refine ⟨_, rfl, rfl, _, rfl, iteF ⟨_, rfl, rfl, _, rfl, iteF ?_⟩⟩
        refine ⟨_, rfl, ⟨_, _, _, _, _, rfl, .ty _, tx_int _, k_ib, _, rfl, iteF ⟨_, rfl, ⟨_, _, _, _, _, rfl, .ty _, tx_int _, k_ib, _, rfl, iteF ?_⟩⟩⟩⟩
        refine ⟨_, rfl, ⟨_, _, _, _, _, rfl, .ty _, tx_int _, k_ii, _, rfl, iteT ⟨_, rfl, ⟨_, _, _, _, _, rfl, .ty _, tx_int _, k_ii, _, rfl, iteT ⟨_, rfl, _, rfl, rfl, ?_⟩⟩⟩⟩⟩
        rw [decide_eq_true rfl]
        exact q _ (Same.refl _)
      · refine ⟨_, rfl, rfl, _, rfl, iteF ⟨_, rfl, rfl, _, rfl, iteF ?_⟩⟩
        refine ⟨_, rfl, ⟨_, _, _, _, _, rfl, .ty _, tx_str _, k_sb, _, rfl, iteF ⟨_, rfl, ⟨_, _, _, _, _, rfl, .ty _, tx_str _, k_sb, _, rfl, iteF ?_⟩⟩⟩⟩
        refine ⟨_, rfl, ⟨_, _, _, _, _, rfl, .ty _, tx_str _, k_si, _, rfl, iteF ?_⟩⟩
        refine ⟨_, rfl, ⟨_, _, _, _, _, rfl, .ty _, tx_str _, k_ss, _, rfl, iteT ⟨_, rfl, ⟨_, _, _, _, _, rfl, .ty _, tx_str _, k_ss, _, rfl, iteT ⟨_, rfl, _, rfl, rfl, ?_⟩⟩⟩⟩⟩
        rw [decide_eq_true rfl]
        exact q _ (Same.refl _)
    · obtain ⟨a, b, xs, ys, rfl, rfl, h, hl, hz, hr⟩ := h
      refine ⟨_, rfl, rfl, _, rfl, iteF ⟨_, rfl, rfl, _, rfl, iteF ?_⟩⟩
      rcases h with ⟨ha, hb⟩ | ⟨ha, hb⟩
      · refine ⟨_, rfl, ⟨_, _, _, _, _, rfl, .ty _, tx_lst hb, k_lb, _, rfl, iteF ⟨_, rfl, ⟨_, _, _, _, _, rfl, .ty _, tx_lst ha, k_lb, _, rfl, iteF ?_⟩⟩⟩⟩
        refine ⟨_, rfl, ⟨_, _, _, _, _, rfl, .ty _, tx_lst hb, k_li, _, rfl, iteF ?_⟩⟩
        refine ⟨_, rfl, ⟨_, _, _, _, _, rfl, .ty _, tx_lst hb, k_ls, _, rfl, iteF ?_⟩⟩
        refine ⟨_, rfl, ⟨_, _, _, _, _, rfl, .ty _, tx_lst hb, k_ld, _, rfl, iteF ?_⟩⟩
        refine ⟨_, rfl, ⟨_, _, _, _, _, rfl, .ty _, tx_lst hb, k_lt, _, rfl, iteF ?_⟩⟩
        refine ⟨_, rfl, ⟨_, _, _, _, _, rfl, .ty _, tx_lst hb, k_ll, _, rfl, iteT ⟨_, rfl, ⟨_, _, _, _, _, rfl, .ty _, tx_lst ha, k_ll, _, rfl, iteF ?_⟩⟩⟩⟩
        refine ⟨_, rfl, _, _, rfl, .inl (SqL.of ha), _, rfl, _, _, rfl, .inl (SqL.of hb), rfl, _, rfl, ?_⟩
        rw [hl, decide_eq_true rfl]
        refine iteF ⟨_, rfl, _, _, rfl, .inl (SqL.of hb), _, rfl, by omega, by omega, for_upto (lo := 0) (L := ys.length) (by omega) (fun i σ H' => ∃ v3, σ = [some (.ref a), some (.ref b), none, v3] ∧ Same H H') ⟨none, rfl, Same.refl H⟩ ?_ ?_⟩
        · rintro i σ H' hi ⟨v3, rfl, e⟩
          obtain ⟨x, hx⟩ : ∃ x, xs[i]? = some x := ⟨xs[i]'(by omega), List.getElem?_eq_getElem _⟩
          obtain ⟨y, hy⟩ : ∃ y, ys[i]? = some y := ⟨ys[i], List.getElem?_eq_getElem _⟩
          refine ⟨_, rfl, _, rfl, .inl ⟨a, _, _, _, rfl, rfl, e.seq (SqL.of ha), at_of (by omega) hx, _, rfl, _, rfl, .inl ⟨b, _, _, _, rfl, rfl, e.seq (SqL.of hb), at_of (by omega) hy, ?_⟩⟩⟩
          exact hR _ _ _ _ (hS _ _ _ _ e (hr i x y hx hy)) fun H2 s2 => ⟨_, rfl, _, rfl, e.trans s2⟩
        · rintro σ H' ⟨v3, rfl, e⟩
          exact q _ e
      · refine ⟨_, rfl, ⟨_, _, _, _, _, rfl, .ty _, tx_tup hb, k_tb, _, rfl, iteF ⟨_, rfl, ⟨_, _, _, _, _, rfl, .ty _, tx_tup ha, k_tb, _, rfl, iteF ?_⟩⟩⟩⟩
        refine ⟨_, rfl, ⟨_, _, _, _, _, rfl, .ty _, tx_tup hb, k_ti, _, rfl, iteF ?_⟩⟩
        refine ⟨_, rfl, ⟨_, _, _, _, _, rfl, .ty _, tx_tup hb, k_ts, _, rfl, iteF ?_⟩⟩
        refine ⟨_, rfl, ⟨_, _, _, _, _, rfl, .ty _, tx_tup hb, k_td, _, rfl, iteF ?_⟩⟩
        refine ⟨_, rfl, ⟨_, _, _, _, _, rfl, .ty _, tx_tup hb, k_tt, _, rfl, iteT ⟨_, rfl, ⟨_, _, _, _, _, rfl, .ty _, tx_tup ha, k_tt, _, rfl, iteF ?_⟩⟩⟩⟩
        refine ⟨_, rfl, ⟨_, _, _, _, _, rfl, .ty _, tx_tup hb, k_tl, _, rfl, iteF ?_⟩⟩
        refine ⟨_, rfl, _, _, rfl, .inr (SqT.of ha), _, rfl, _, _, rfl, .inr (SqT.of hb), rfl, _, rfl, ?_⟩
        rw [hl, decide_eq_true rfl]
        refine iteF ⟨_, rfl, _, _, rfl, .inr (SqT.of hb), _, rfl, by omega, by omega, for_upto (lo := 0) (L := ys.length) (by omega) (fun i σ H' => ∃ v3, σ = [some (.ref a), some (.ref b), none, v3] ∧ Same H H') ⟨none, rfl, Same.refl H⟩ ?_ ?_⟩
        · rintro i σ H' hi ⟨v3, rfl, e⟩
          obtain ⟨x, hx⟩ : ∃ x, xs[i]? = some x := ⟨xs[i]'(by omega), List.getElem?_eq_getElem _⟩
          obtain ⟨y, hy⟩ : ∃ y, ys[i]? = some y := ⟨ys[i], List.getElem?_eq_getElem _⟩
          refine ⟨_, rfl, _, rfl, .inr (.inl ⟨a, _, _, _, rfl, rfl, e.tup (SqT.of ha), at_of (by omega) hx, _, rfl, _, rfl, .inr (.inl ⟨b, _, _, _, rfl, rfl, e.tup (SqT.of hb), at_of (by omega) hy, ?_⟩)⟩)⟩
          exact hR _ _ _ _ (hS _ _ _ _ e (hr i x y hx hy)) fun H2 s2 => ⟨_, rfl, _, rfl, e.trans s2⟩
        · rintro σ H' ⟨v3, rfl, e⟩
          exact q _ e
theorem ok_mt0 (T : Txt w K mg) : Ok P w K mg base CX0 1 "_law_matches" ["answer", "due"] (spMt (Mt 0)) :=
  (mt_gen (k := 0) (sp0 := fun _ _ _ _ => False) (R := fun _ _ _ => False) T (fun T => Ok.never (f__law_matches T) (fun _ _ _ _ _ _ us hl => match us, hl with | [_, _], _ => rfl)) (fun _ _ _ _ h _ => h.elim) (fun _ _ _ _ _ h => h)).imp fun vs H Q E ⟨v, u, e, h, q⟩ => ⟨v, u, e, .inl h, q⟩
theorem ok_mt1 (T : Txt w K mg) : Ok P w K mg base CX0 2 "_law_matches" ["answer", "due"] (spMt (Mt 1)) :=
  mt_gen (k := 1) T (fun T => ok_mt0 T) (fun _ v u _ h q => ⟨v, u, rfl, h, q⟩) (fun _ _ _ _ e h => h.same (k := 0) e)
theorem ok_mt2 (T : Txt w K mg) : Ok P w K mg base CX0 3 "_law_matches" ["answer", "due"] (spMt (Mt 2)) :=
  mt_gen (k := 2) T (fun T => ok_mt1 T) (fun _ v u _ h q => ⟨v, u, rfl, h, q⟩) (fun _ _ _ _ e h => Mt.same (k := 1) e h)
end
end K26
end
section
set_option maxRecDepth 100000
set_option maxHeartbeats 4000000
namespace L2
open PySem PySem.Spec PyProof.Rows
/-! ### lists of couples compared -/
def dP (c : Int × Int) : PyData := .tuple [.int c.1, .int c.2]
theorem dp_pair {K : PySem.W.Frag} {H : Hp} {x : V} {c : Int × Int} (h : PairT H x c) : Dp K H x (dP c) := by
  obtain ⟨t, rfl, h⟩ := h
  exact .tup (SqT.of h) (.cons (.int _) (.cons (.int _) .nil))
theorem dp_pairall {K : PySem.W.Frag} {H : Hp} {xs : List V} {ws : List (Int × Int)} (h : Paired (PairT H) xs ws) : DpAll K H xs (ws.map dP) := by
  induction h with
  | nil => exact .nil
  | cons a _ ih => exact .cons (dp_pair a) ih
theorem dp_pairs {K : PySem.W.Frag} {H : Hp} {a : Addr} {xs : List V} {ws : List (Int × Int)} (ha : H a = some (.lst xs)) (h : Paired (PairT H) xs ws) : Dp K H (.ref a) (.list (ws.map dP)) := .lst (SqL.of ha) (dp_pairall h)
theorem lay_pairall : ∀ ws : List (Int × Int), PyData.canLayAll0 (ws.map dP) = true
  | [] => by rw [List.map_nil]; unfold PyData.canLayAll0; rfl
  | c :: r => by
    rw [List.map_cons]
    unfold PyData.canLayAll0
    rw [lay_pairall r]
    unfold dP PyData.canLay0 PyData.canLayAll0 PyData.canLay0 PyData.canLayAll0 PyData.canLay0 PyData.canLayAll0
    rfl
theorem lay_pairs (ws : List (Int × Int)) : (PyData.list (ws.map dP)).canLay0 = true := by
  unfold PyData.canLay0
  exact lay_pairall ws
theorem dep_pairall : ∀ ws : List (Int × Int), PyData.depthAll (ws.map dP) ≤ 2
  | [] => by rw [List.map_nil]; unfold PyData.depthAll; exact Nat.zero_le _
  | c :: r => by
    rw [List.map_cons]
    unfold PyData.depthAll
    have h := dep_pairall r
    have e : (dP c).depth ≤ 2 := by
      unfold dP PyData.depth PyData.depthAll PyData.depth PyData.depthAll PyData.depth PyData.depthAll
      decide
    omega
theorem shaped_pairs (ws : List (Int × Int)) : SeqAt.shaped (PyData.list (ws.map dP)) = true := by
  unfold SeqAt.shaped
  rw [lay_pairs]
  have h := dep_pairall ws
  have e : (PyData.list (ws.map dP)).depth ≤ 64 := by
    unfold PyData.depth
    omega
  rw [decide_eq_true e]
  rfl
theorem ne_pairs {K : PySem.W.Frag} {H : Hp} {a b : Addr} {xs ys : List V} {ws : List (Int × Int)} {Q : VK} (ha : H a = some (.lst xs)) (hb : H b = some (.lst ys)) (h1 : Paired (PairT H) xs ws) (h2 : Paired (PairT H) ys ws) (q : Q (.bl false) H) : rNeD K (.ref a) (.ref b) H Q := by
  refine ⟨_, _, dp_pairs ha h1, dp_pairs hb h2, shaped_pairs ws, shaped_pairs ws, ?_⟩
  rw [SeqAt.eqv_refl _ (lay_pairs ws)]
  exact q
end L2
end
section
set_option maxRecDepth 100000
set_option maxHeartbeats 4000000
/-! the end of a row whose law asks that no repr is under way (after the end with tables) -/
namespace LamX
open PySem PySem.Spec PyProof.Rows L2
/-! ### the first state: nothing is tracked but the empty tables and, where it is not in the written part, the script -/
abbrev tabO : Obj := { cls := .none, data := .fields #[] }
abbrev scrO (us : List Value) : Obj := { cls := .type "list", data := .seq us.toArray }
structure First (K : PySem.W.Frag) (h : Heap) (T : List Addr) (a : Addr) (us : List Value) (ns : List Int) (H : Hp) : Prop where
  tab : ∀ b ∈ T, H b = some (.tbl #[])
  only : ∀ b u, H b = some u → (b ∈ T ∧ u = .tbl #[]) ∨ (b = a ∧ K.lookup a = none ∧ u = .frz (scrO us) (.lst (ns.map V.int)))
  seq : SqL K H a (ns.map V.int)
section
variable {P : Program} {w : World} {K : PySem.W.Frag} {h : Heap} {T : List Addr} {a : Addr} {us : List Value} {ns : List Int} {H : Hp}
theorem first_ex (KX : K.In h) (ha : h.get? a = some (scrO us)) (hT : ∀ b ∈ T, h.get? b = some tabO) (hi : IntsAre us ns) (hl : ns.length ≤ sizeLine) : ∃ H, First K h T a us ns H := by
  have out : ∀ b ∈ T, b ≠ a := fun b hb e => by
    have q := hT b hb
    rw [e, ha] at q
    have := congrArg Obj.data (Option.some.inj q)
    cases this
  cases hk : K.lookup a with
  | some o =>
    have eo : o = scrO us := Option.some.inj ((KX a o hk).symm.trans ha)
    subst eo
    refine ⟨fun b => if b ∈ T then some (.tbl #[]) else none, fun b hb => if_pos hb, fun b u e => ?_, .inr ⟨scrO us, us.toArray, _, hk, rfl, rfl, rfl, ?_, ?_⟩⟩
    · by_cases m : b ∈ T
      · exact .inl ⟨m, Option.some.inj (e.symm.trans (if_pos m))⟩
      · cases (if_neg m).symm.trans e
    · rw [List.size_toArray, hi.length]; exact hl
    · have := vals_ints hi
      simpa using this
  | none =>
    refine ⟨fun b => if b ∈ T then some (.tbl #[]) else if b = a then some (.frz (scrO us) (.lst (ns.map V.int))) else none, fun b hb => if_pos hb, fun b u e => ?_, .inl (.inr ⟨scrO us, ?_⟩)⟩
    · by_cases m : b ∈ T
      · exact .inl ⟨m, Option.some.inj (e.symm.trans (if_pos m))⟩
      · have e := (if_neg m).symm.trans e
        by_cases q : b = a
        · exact .inr ⟨q, hk, Option.some.inj (e.symm.trans (if_pos q))⟩
        · cases (if_neg q).symm.trans e
    · show (if a ∈ T then some (HO.tbl #[]) else if a = a then _ else none) = _
      rw [if_neg (fun m => out a m rfl), if_pos rfl]
theorem First.get (F : First K h T a us ns H) (ha : h.get? a = some (scrO us)) (hT : ∀ b ∈ T, h.get? b = some tabO) {b : Addr} {u : HO} (e : H b = some u) : h.get? b = some tabO ∨ h.get? b = some (scrO us) := by
  rcases F.only b u e with ⟨m, _⟩ | ⟨rfl, _⟩
  · exact .inl (hT b m)
  · exact .inr ha
/-- an object of another kind is not tracked -/
theorem First.free (F : First K h T a us ns H) (ha : h.get? a = some (scrO us)) (hT : ∀ b ∈ T, h.get? b = some tabO) {b : Addr} {o : Obj} (e : h.get? b = some o) (n1 : o ≠ tabO) (n2 : o ≠ scrO us) : H b = none := by
  cases q : H b with
  | none => rfl
  | some u =>
    rcases F.get ha hT q with z | z
    · exact absurd (Option.some.inj (e.symm.trans z)) n1
    · exact absurd (Option.some.inj (e.symm.trans z)) n2
theorem other_dict {o : Obj} {es : Array DictEntry} {n : Nat} (d : o.data = .dict es n) : o ≠ tabO ∧ o ≠ scrO us := ⟨(fun z => by rw [z] at d; cases d), (fun z => by rw [z] at d; cases d)⟩
theorem First.hok (F : First K h T a us ns H) (ha : h.get? a = some (scrO us)) (hT : ∀ b ∈ T, h.get? b = some tabO) (hi : IntsAre us ns) (hl : ns.length ≤ sizeLine) : HOk P w H h := fun b u e => by
  rcases F.only b u e with ⟨m, rfl⟩ | ⟨rfl, _, rfl⟩
  · exact hT b m
  · exact ⟨ha, by rw [List.length_map]; exact hl, us, _, vals_ints hi, ha⟩
/-- the written part stands in what is not tracked -/
theorem First.kin (F : First K h T a us ns H) (KX : K.In h) (nT : ∀ b ∈ T, K.lookup b = none) : K.In (hidT h H) := fun b o e => by
  refine hidT_get (KX b o e) ?_
  cases q : H b with
  | none => rfl
  | some u =>
    rcases F.only b u q with ⟨m, _⟩ | ⟨rfl, z, _⟩
    · rw [nT b m] at e; cases e
    · rw [z] at e; cases e
theorem First.nsOf (F : First K h T a us ns H) (ha : h.get? a = some (scrO us)) (hT : ∀ b ∈ T, h.get? b = some tabO) {b : Addr} {m : Str → Option Value} (g : h.Ns b m) : (hidT h H).Ns b m := by
  obtain ⟨o, es, n, e, d, r⟩ := g
  exact ⟨o, es, n, hidT_get e (F.free ha hT e (other_dict (us := us) d).1 (other_dict (us := us) d).2), d, r⟩
end
theorem law_callG {P : Program} {w : World} {K : PySem.W.Frag} {mg mb : Str → Option Value} {k : Nat} {fa a : Addr} {cs : List (Addr × Addr)} {fd : FuncData} {x : Str} {sp : Sp} {s : Shared} {us : List Value} {ns : List Int}
    (KX : K.In s.heap) (gl : s.heap.Ns mainGlobals mg) (bl : s.heap.Ns builtinsNs mb) (bb : ∀ x : Str, x ≠ "__name__" → mb x = bootBuiltins x) (lim : s.heap.NoLimit) (gens : s.gens = #[])
    (hTc : ∀ p ∈ cs, s.heap.get? p.2 = some tabO) (nTc : ∀ p ∈ cs, K.lookup p.2 = none) (C : ∀ p ∈ cs, PySem.W.CodeHd s.heap p.1 p.2)
    (bm : ∃ (m : Addr) (o : Obj), mg "__builtins__" = some (.ref m) ∧ m ≠ builtinsNs ∧ s.heap.get? m = some o ∧ o.cls = .type "module" ∧ o.dict = some builtinsNs ∧ o.data = .plain)
    (ha : s.heap.get? a = some (scrO us)) (hi : IntsAre us ns) (hl : ns.length ≤ sizeLine) (hr : Room k callerA) (hgd : callerA.guards = some [])
    (F : ∀ base : Heap, K.In base → base.Ns mainGlobals mg → (∀ p ∈ cs, TabB base mg p.1 p.2) → FnG P w K mg base k fa fd [x] sp) (bind : ∀ (s : Shared) (u : Value), BindsTo s fd ⟨[u], []⟩ [(x, u)])
    (hsp : ∀ H : Hp, (∀ p ∈ cs, H p.2 = some (.tbl #[])) → SqL K H a (ns.map V.int) → sp [.ref a] H (fun v _ => v = .bl true) E0) :
    codeAny (model P w) callerA (.call (.ref fa) ⟨[.ref a], []⟩) (fun r t => r = .ok (.ret (.bool true)) ∧ OldK s.heap t.heap ∧ t.os = s.os ∧ AllBare t.gens) s := by
  have inT : ∀ {p}, p ∈ cs → p.2 ∈ cs.map (·.2) := fun hp => List.mem_map_of_mem hp
  have hT : ∀ b ∈ cs.map (·.2), s.heap.get? b = some tabO := fun b hb => by
    obtain ⟨p, hp, rfl⟩ := List.mem_map.mp hb
    exact hTc p hp
  have nT : ∀ b ∈ cs.map (·.2), K.lookup b = none := fun b hb => by
    obtain ⟨p, hp, rfl⟩ := List.mem_map.mp hb
    exact nTc p hp
  obtain ⟨H, W⟩ := first_ex KX ha hT hi hl
  have ok : HOk P w H s.heap := W.hok ha hT hi hl
  have gl' := W.nsOf ha hT gl
  have notG : ∀ {b o}, s.heap.get? b = some o → (∀ es n, o.data ≠ .dict es n) → b ≠ mainGlobals := fun {b o} e n q => by
    obtain ⟨o', es, m, e', d, _⟩ := gl
    rw [q, e'] at e
    rw [Option.some.inj e] at d
    exact n _ _ d
  have M : L2.Mod K mg (hidT s.heap H) := by
    obtain ⟨ml, l1, l2⟩ := lim
    exact ⟨W.kin KX nT, gl', ⟨mb, W.nsOf ha hT bl, bb⟩, ⟨ml, W.nsOf ha hT l1, l2⟩⟩
  have TB : ∀ p ∈ cs, TabB (hidT s.heap H) mg p.1 p.2 := fun p hp => by
    obtain ⟨o, vs, f1, f2, f3, f4, f5, f6, f7, e, c1, c2, c3, rest⟩ := C p hp
    obtain ⟨m, om, b1, b2, b3, b4, b5, b6⟩ := bm
    have fo : H p.1 = none := W.free ha hT e (fun z => by rw [z] at c1; cases c1) (fun z => by rw [z] at c1; exact absurd (show Value.type "list" = Value.type "code" from c1) (by decide))
    have fm : H m = none := W.free ha hT b3 (fun z => by rw [z] at b4; cases b4) (fun z => by rw [z] at b4; exact absurd (show Value.type "list" = Value.type "module" from b4) (by decide))
    have mG : m ≠ mainGlobals := notG b3 fun es n z => by rw [b6] at z; cases z
    have mP : m ≠ p.2 := fun z => by
      rw [z, hTc p hp] at b3
      rw [← Option.some.inj b3] at b6
      cases b6
    have pG : p.2 ≠ mainGlobals := notG (hTc p hp) fun es n z => by cases z
    exact ⟨⟨o, vs, f1, f2, f3, f4, f5, f6, f7, hidT_get e fo, c1, c2, c3, rest⟩, ⟨m, om, b1, b2, mG, mP, hidT_get b3 fm, b4, b5, b6⟩, pG.symm⟩
  have env : Env0 P w K mg (hidT s.heap H) callerA [] s H :=
    { frames := rfl, mod := M, bs := fun b o e => of_hidT e, bsz := Nat.le_of_eq (hidT_size _ _), funs := trivial, frf := fun b hb => (by cases hb), hok := ok, bare := .of_eq gens }
  have run := (F _ M.kin M.glob TB).run callerA [] s H ⟨[.ref a], []⟩ [.ref a] [.ref a] (fun v _ => v = .bl true) hr hgd env (bind s (.ref a)) (.cons rfl .nil) (hsp H (fun p hp => W.tab _ (inT hp)) W.seq)
  refine codeAny_mono run fun r t end_ => ?_
  match r, end_ with
  | .ok (.ret u), ⟨v, H', os, bare, un, ok', rv, e⟩ =>
    subst e
    obtain rfl : u = Value.bool true := rv
    -- what is no table stays
    have stay : ∀ b o, b ∉ cs.map (·.2) → s.heap.get? b = some o → t.heap.get? b = some o := fun b o nb e => by
      cases q : H b with
      | none => exact un.keep b o e q (fun z => by cases z) (fun z => by cases z)
      | some u =>
        rcases W.only b u q with ⟨m, _⟩ | ⟨rfl, _, rfl⟩
        · exact absurd m nb
        · rw [ha] at e
          rw [← Option.some.inj e]
          exact (ok' b _ (un.frzs b _ _ q)).1
    have grow : ∀ b ∈ cs.map (·.2), ∃ more : Array Value, t.heap.get? b = some { cls := .none, data := .fields more } := fun b hb => by
      obtain ⟨more, z⟩ := un.tbls b #[] (W.tab b hb)
      exact ⟨_, ok' b _ z⟩
    refine ⟨rfl, ⟨fun b o e => ?_, fun b o e => ?_⟩, os, bare⟩ <;> by_cases m : b ∈ cs.map (·.2)
    · obtain ⟨p, hp, rfl⟩ := List.mem_map.mp m
      obtain ⟨more, z⟩ := grow _ m
      have eo : o = tabO := Option.some.inj (e.symm.trans (hTc p hp))
      subst eo
      refine .inr (.inl ⟨((C p hp).tab (hTc p hp)).isCodeTable, rfl, #[], more, rfl, ?_⟩)
      rw [Array.empty_append]
      exact z
    · exact .inl (stay b o m e)
    · obtain ⟨more, z⟩ := grow b m
      exact ⟨_, z⟩
    · exact ⟨o, stay b o m e⟩
  | .ok .next, z => exact False.elim z
  | .ok .brk, z => exact False.elim z
  | .ok .cont, z => exact False.elim z
  | .error e, z => exact False.elim z
theorem fnG_defC {P : Program} {w : World} {K : PySem.W.Frag} {mg : Str → Option Value} {base : Heap} {k : Nat} {x : Str} {ps N : List Str} {sp : Sp} {st : Stmt} {cc f : Addr} {fd : FuncData} (F : FnP K x st f fd) (hc : fd.code = .ref cc)
    (S : FnScope N ps (defScope st)) (len : ∀ vs H Q E, sp vs H Q E → vs.length = ps.length)
    (hbody : ∀ (f : Addr) (A : Around) (outer : List Env) (s : Shared) (H : Hp) (vs : List V) (Q : VK), Room k (A.deeper (envOfC x (defScope st) s.heap.objs.size f (.ref cc))) → A.guards = some [] → sp vs H Q E0 →
      ∃ t, PSs (cxOf CX0 P w K mg base N x (defScope st) f (.ref cc) A outer s H E0).nox (defBody st) t ∧ t { nx := fun _ H' => Q .non H', rt := Q } (L2.start N vs) H) : FnG P w K mg base (k + 1) f fd ps sp := by
  obtain ⟨oc, od, dV, kV, doc, pm, an, cdv, ct, osl, rfl, lk, hcd, _, _⟩ := F.ex
  obtain rfl : cdv = .ref cc := hc
  constructor
  · exact len
  · intro A outer s H args us vs Q hr hgd e0 hbt r hsp
    refine run_ofS lk hcd S hr e0 hbt r (len _ _ _ _ hsp) fun hr' => ?_
    obtain ⟨t, h, q⟩ := hbody f A outer s H vs Q hr' hgd hsp
    exact ⟨t, h.nox, q⟩
def LawAtG (l : PySem.W.OpenLaw) (w : World) (K : PySem.W.Frag) (k n : Nat) (x : Str) (mg : Str → Option Value) (fa : Addr) (h : Heap) : Prop :=
  ∃ (fd : FuncData) (cs : List (Addr × Addr)) (sp : Sp), (∀ p ∈ cs, h.get? p.2 = some { cls := .none, data := .fields #[] }) ∧ (∀ p ∈ cs, K.lookup p.2 = none) ∧ (∀ p ∈ cs, PySem.W.CodeHd h p.1 p.2) ∧ (∀ (s : Shared) (u : Value), BindsTo s fd ⟨[u], []⟩ [(x, u)]) ∧
    (∀ (H : Hp) (a : Addr) (ns : List Int), ns.length ≤ n → (∀ p ∈ cs, H p.2 = some (.tbl #[])) → SqL K H a (ns.map V.int) → sp [.ref a] H (fun v _ => v = .bl true) E0) ∧
    ∀ base : Heap, K.In base → base.Ns mainGlobals mg → (∀ p ∈ cs, TabB base mg p.1 p.2) → FnG l.prog w K mg base k fa fd [x] sp
theorem walk_ofG {l : PySem.W.OpenLaw} {n k : Nat} {q : Program} {loose : List Str} {XP : (Str → Option Value) → Heap → Prop} {YP : World → Heap → Prop} {d : DefRec} {x : Str}
    (hn : l.most = some n) (hn2 : n ≤ sizeLine) (hdf : d.params.defaults = []) (hr : Room k callerA) (hgd : callerA.guards = some [])
    (F : ∀ (w : World) (mg : Str → Option Value) (fa : Addr) (h : Heap), YP w h → h.Ns mainGlobals mg → mg d.name = some (.ref fa) → ∃ K : PySem.W.Frag, K.In h ∧ LawAtG l w K k n x mg fa h) :
    PySem.W.WalkO q loose XP YP l.row.toRowW d [] (fun f vs => PySem.call f vs) := by
  refine Att.attach_callB hn hdf fun w s₀ s₁ mg mb fa o pm cd doc a vs ns G Y ho hd hcd hmg hobj hints hlen hbits hg => ?_
  obtain ⟨K, KX, fd, cs, sp, hT, nT, C, hb, hsp, hF⟩ := F w mg fa _ Y G.T.g hmg
  exact law_callG KX G.T.g G.T.b G.T.builtins G.T.nolimit hg hT nT C G.T.bmain hobj hints (Nat.le_trans hlen hn2) hr hgd hF hb (fun H hH hS => hsp H a ns hlen hH hS)
end LamX
end
section
set_option maxRecDepth 100000
set_option maxHeartbeats 4000000
namespace LamX
open PySem PySem.Spec PySem.Calls PyProof.Rows L2
/-- a law whose code object is not looked at -/
theorem fnG_def0 {P : Program} {w : World} {K : PySem.W.Frag} {mg : Str → Option Value} {base : Heap} {k : Nat} {x : Str} {ps N : List Str} {sp : Sp} {st : Stmt} {f : Addr} {fd : FuncData} (F : FnP K x st f fd)
    (S : FnScope N ps (defScope st)) (len : ∀ vs H Q E, sp vs H Q E → vs.length = ps.length)
    (hbody : ∀ (f : Addr) (cdv : Value) (A : Around) (outer : List Env) (s : Shared) (H : Hp) (vs : List V) (Q : VK), Room k (A.deeper (envOfC x (defScope st) s.heap.objs.size f cdv)) → A.guards = some [] → sp vs H Q E0 →
      ∃ t, PSs (cxOf CX0 P w K mg base N x (defScope st) f cdv A outer s H E0).nox (defBody st) t ∧ t { nx := fun _ H' => Q .non H', rt := Q } (L2.start N vs) H) : FnG P w K mg base (k + 1) f fd ps sp := by
  obtain ⟨oc, od, dV, kV, doc, pm, an, cdv, ct, osl, rfl, lk, hcd, _, _⟩ := F.ex
  constructor
  · exact len
  · intro A outer s H args us vs Q hr hgd e0 hbt r hsp
    refine run_ofS lk hcd S hr e0 hbt r (len _ _ _ _ hsp) fun hr' => ?_
    obtain ⟨t, h, q⟩ := hbody f cdv A outer s H vs Q hr' hgd hsp
    exact ⟨t, h.nox, q⟩
end LamX
end
section
set_option maxRecDepth 100000
set_option maxHeartbeats 4000000
namespace L2
open PySem PySem.Spec PyProof.Rows
/-! ### {(a, b): v for a in .. for b in ..}: two clauses, the keys tuples -/
/-- a dict comprehension of two clauses -/
abbrev dC2 (ke ve ta ia tb ib : Expr) (fa fb : List Expr) (sc : Scope) (ps : Pos) : Expr := .DictComp ke ve [⟨ta, ia, fa, 0⟩, ⟨tb, ib, fb, 0⟩] sc ps
abbrev tsL (fs : List Expr) (en : Env) : Sem Bool := forIn fs true fun c r =>
  if r = true then do let z ← isTrue c en (eval c en); pure (ForInStep.yield z)
  else pure (ForInStep.yield r)
section
variable {prog : Program} {w : World} {A : Around} {R : Result → Shared → Prop} {s : Shared} {ke ve ta ia tb ib : Expr} {fa fb : List Expr} {sc : Scope} {ps : Pos} {it acc : Value} {D : Addr} {en : Env}
theorem d2_turn0 : compTurn (dC2 ke ve ta ia tb ib fa fb sc ps) 0 it acc en = (do
    standAt ia.pos
    match ← pyNext it with
    | none => pure (.done .next)
    | some v =>
      letOwnedTupleGo ta it v; assign ta en v
      let mut z := true
      for c in fa do
        if z then z ← isTrue c en (eval c en)
      if z then
        let x ← eval ib en
        standAt ib.pos
        let x ← foldedSetIterable ib en x
        let _ ← runOwn (.compStart (dC2 ke ve ta ia tb ib fa fb sc ps) 1 (← holding [x] (pyIter x)) acc en) en
      again (.compLoop (dC2 ke ve ta ia tb ib fa fb sc ps) 0 it acc en)) := by rfl
theorem d2_turn1 : compTurn (dC2 ke ve ta ia tb ib fa fb sc ps) 1 it (.ref D) en = (do
    standAt ib.pos
    match ← pyNext it with
    | none => pure (.done .next)
    | some v =>
      letOwnedTupleGo tb it v; assign tb en v
      let mut z := true
      for c in fb do
        if z then z ← isTrue c en (eval c en)
      if z then
        (do
          let k1 ← eval ke en
          let v1 ← holding [k1] (eval ve en)
          standAt { ke.pos with endLine := ve.pos.endLine, endCol := ve.pos.endCol }
          holding [k1, v1] (dictSet D k1 v1))
      again (.compLoop (dC2 ke ve ta ia tb ib fa fb sc ps) 1 it (.ref D) en)) := by rfl
abbrev nB (prog : Program) (w : World) (A : Around) (en : Env) (R : Result → Shared → Prop) : Value → Shared → Prop := notedBy (model prog w) A en fun e s' => R (.error e) s'
theorem d2_out (hs : ∀ x, foldedSetIterable ib en x = pure x) (I : Nat → Shared → Prop)
    (turn : ∀ n s, I n s → wpAny (model prog w) A (pyNext it) (fun r s1 => match r with
      | none => R (.ok .next) s1
      | some v => wpAny (model prog w) A (letOwnedTupleGo ta it v) (fun _ s2 =>
          wpAny (model prog w) A (assign ta en v) (fun _ s3 => wpAny (model prog w) A (tsL fa en) (fun z s4 =>
            if z = true then wpAny (model prog w) A (eval ib en) (fun x s5 =>
              wpAny (model prog w) A (pyIter x) (fun it1 s6 => codeAny (model prog w) A (.compStart (dC2 ke ve ta ia tb ib fa fb sc ps) 1 it1 acc en) (fun r s' => match r with
                | .ok _ => ∃ m, m < n ∧ I m s'
                | .error _ => False) s6) (nB prog w A en R) s5) (nB prog w A en R) s4
            else ∃ m, m < n ∧ I m s4) (nB prog w A en R) s3) (nB prog w A en R) s2) (nB prog w A en R) s1) (nB prog w A en R) s)
    (n : Nat) (h : I n s) : codeAny (model prog w) A (.compLoop (dC2 ke ve ta ia tb ib fa fb sc ps) 0 it acc en) R s := by
  refine codeAny_loop rfl I (fun n s hn => ?_) n h
  show wpAny _ A ((compTurn (dC2 ke ve ta ia tb ib fa fb sc ps) 0 it acc en).onRaise fun x => do noteFrame x en; theTreesLotGoes x) _ _ s
  refine wpAny_noted ?_
  rw [d2_turn0]
  refine wpAny_bind (wpAny_standAt (wpAny_bind (wpAny_mono (turn n s hn) (fun r s1 g1 => ?_) fun _ _ q => q)))
  rcases r with _ | v
  · exact wpAny_pure g1
  · refine wpAny_bind (wpAny_mono g1 (fun _ s2 g2 => ?_) fun _ _ q => q)
    refine wpAny_bind (wpAny_mono g2 (fun _ s3 g3 => wpAny_bind (wpAny_mono g3 (fun z s4 g4 => ?_) fun _ _ q => q)) fun _ _ q => q)
    rcases z with _ | _
    · exact wpAny_pure ⟨rfl, g4⟩
    · refine wpAny_bind (wpAny_mono g4 (fun x s5 g5 => ?_) fun _ _ q => q)
      refine wpAny_bind (wpAny_standAt (wpAny_bind (wpAny_of_eq (hs x) (wpAny_bind (wpAny_holding (wpAny_mono g5 (fun it1 s6 g6 => ?_) fun _ _ q => q))))))
      refine wpAny_bind (wpAny_runOwn ?_)
      rw [Around.mark_none]
      refine codeAny_mono g6 fun r s' gr => ?_
      rcases r with e | f
      · first
          | exact gr.elim
          | exact wpAny_pure ⟨rfl, gr⟩
          | exact wpAny_bind (wpAny_pure (wpAny_pure ⟨rfl, gr⟩))
      · first
          | exact gr.elim
          | exact wpAny_pure ⟨rfl, gr⟩
          | exact wpAny_bind (wpAny_pure (wpAny_pure ⟨rfl, gr⟩))
theorem d2_in (I : Nat → Shared → Prop)
    (turn : ∀ n s, I n s → wpAny (model prog w) A (pyNext it) (fun r s1 => match r with
      | none => R (.ok .next) s1
      | some v => wpAny (model prog w) A (letOwnedTupleGo tb it v) (fun _ s2 =>
          wpAny (model prog w) A (assign tb en v) (fun _ s3 => wpAny (model prog w) A (tsL fb en) (fun z s4 =>
            if z = true then wpAny (model prog w) A (eval ke en) (fun k1 s5 =>
              wpAny (model prog w) A (eval ve en) (fun v1 s6 => wpAny (model prog w) A (dictSet D k1 v1) (fun _ s7 => ∃ m, m < n ∧ I m s7) (nB prog w A en R) s6) (nB prog w A en R) s5) (nB prog w A en R) s4
            else ∃ m, m < n ∧ I m s4) (nB prog w A en R) s3) (nB prog w A en R) s2) (nB prog w A en R) s1) (nB prog w A en R) s)
    (n : Nat) (h : I n s) : codeAny (model prog w) A (.compLoop (dC2 ke ve ta ia tb ib fa fb sc ps) 1 it (.ref D) en) R s := by
  refine codeAny_loop rfl I (fun n s hn => ?_) n h
  show wpAny _ A ((compTurn (dC2 ke ve ta ia tb ib fa fb sc ps) 1 it (.ref D) en).onRaise fun x => do noteFrame x en; theTreesLotGoes x) _ _ s
  refine wpAny_noted ?_
  rw [d2_turn1]
  refine wpAny_bind (wpAny_standAt (wpAny_bind (wpAny_mono (turn n s hn) (fun r s1 g1 => ?_) fun _ _ q => q)))
  rcases r with _ | v
  · exact wpAny_pure g1
  · refine wpAny_bind (wpAny_mono g1 (fun _ s2 g2 => ?_) fun _ _ q => q)
    refine wpAny_bind (wpAny_mono g2 (fun _ s3 g3 => wpAny_bind (wpAny_mono g3 (fun z s4 g4 => ?_) fun _ _ q => q)) fun _ _ q => q)
    rcases z with _ | _
    · exact wpAny_pure ⟨rfl, g4⟩
    · exact wpAny_bind (wpAny_bind (wpAny_mono g4 (fun k1 s5 g5 => wpAny_bind (wpAny_holding (wpAny_mono g5 (fun v1 s6 g6 =>
        wpAny_bind (wpAny_standAt (wpAny_holding (wpAny_mono g6 (fun _ s7 g7 => wpAny_pure ⟨rfl, g7⟩) fun _ _ q => q)))) fun _ _ q => q))) fun _ _ q => q))
theorem d2_start1 (h0 : codeAny (model prog w) A (.compLoop (dC2 ke ve ta ia tb ib fa fb sc ps) 1 it acc en) R s)
    (h : wpAny (model prog w) A (pyIter it) (fun it' s' => codeAny (model prog w) A (.compLoop (dC2 ke ve ta ia tb ib fa fb sc ps) 1 it' acc en) R s') (nB prog w A en R) s) :
    codeAny (model prog w) A (.compStart (dC2 ke ve ta ia tb ib fa fb sc ps) 1 it acc en) R s := by
  refine codeAny_of_tree ?_
  show wpAny _ _ ((compStart (dC2 ke ve ta ia tb ib fa fb sc ps) 1 it acc en).onRaise fun x => do noteFrame x en; standAt theWindowsPlace) _ _ s
  refine wpAny_notedAt ?_
  unfold compStart
  show wpAny _ _ (ask >>= _) _ _ s
  refine wpAny_bind (wpAny_askSetting (wpAny_ite ?_))
  split
  · first
      | exact wpAny_pure ⟨rfl, h0⟩
      | exact wpAny_bind (wpAny_pure (wpAny_pure ⟨rfl, h0⟩))
  · first
      | exact wpAny_bind (wpAny_rule (wpAny_bind (wpAny_standAt (wpAny_bind (wpAny_mono h (fun _ _ q => wpAny_pure ⟨rfl, q⟩) fun _ _ q => q)))))
      | (refine wpAny_bind (wpAny_rule ?_)
         show wpAny _ _ (standAt ib.pos >>= _) _ _ s
         exact wpAny_bind (wpAny_standAt (wpAny_bind (wpAny_mono h (fun _ _ q => wpAny_pure ⟨rfl, q⟩) fun _ _ q => q))))
end
end L2
end
section
set_option maxRecDepth 100000
set_option maxHeartbeats 4000000
namespace L2
open PySem PySem.Spec PyProof.Rows
/-- d[b] = v by a comprehension, b a tuple that is tracked -/
theorem d2_store {X : Cx} {pins : List (Addr × Obj)} {σ : St} {H : Hp} {s : Shared} {E : Value → Shared → Prop} {D b : Addr} {kvs : List (List Key × V)} {k : List Key} {v : V} {r : Value} {Q : Unit → Shared → Prop} (hu : X.A.units < cLine) (I : Inv X pins σ H s)
    (hD : H D = some (.dT kvs)) (hb : H b = some (.tup (k.map kV))) (hz : kvs.length < sizeLine) (rv : RelV v r) (h : ∀ s', Inv X pins σ (upd H D (.dT (putK kvs k v))) s' → Q () s') : wpAny (model X.prog X.w) X.A (dictSet D (.ref b) r) Q E s := by
  obtain ⟨z, nd, xs, rel, dd⟩ := dt_of I.hok hD
  have zx : xs.length ≤ sizeLine := by rw [← Paired.length rel]; exact z
  have zk : (putK kvs k v).length ≤ sizeLine := by have := length_putK kvs k v; omega
  refine wpAny_dictSet_heap (hsz := zx) (show (tupleKind (mixKind X.prog X.w)).room X.A from hu) (key_of I.hok hb) dd fun h' dd' sb => h _ ?_
  obtain ⟨q, es, ep, e1, e2, e3, e4, _, e5⟩ := dd'
  refine d_write I (by rw [hD]; exact True.intro) sb ⟨q, e1⟩ ⟨zk, nd, _, (rel.put k hb rv).keeps fun c ys ec => ?_, q, es, ep, e1, e2, e3, e4, e5⟩
  rw [upd_ne (ne_of ec hD fun z => nomatch z)]
  exact ec
/-- {key: v for tg in .. for tg1 in ..}, the keys tuples. vs: the block's names; vs1: those of the second target -/
def tDc2 (wi : TI) (g : TG) (tt : TT) (wi1 : TI) (g1 : TG) (tt1 : TT) (tk tv : TE) (vs vs1 : List Nat) : TE := fun σ H Q => wi σ H fun J H1 => ∀ D, H1 D = none → ∃ W : Nat → Nat → Hp → Prop,
  (∃ m, W 0 m (upd H1 D (.dT []))) ∧ ∀ i m H, W i m H → (J.stop i H ∧ Q (.ref D) H) ∨ (J.go i H ∧ ∃ Nx : Hp → Prop,
    (∀ H', Nx H' → ∃ m', m' < m ∧ W (i + 1) m' H') ∧ ∀ x H', J.yld i H x H' → g x (wipe σ vs) H' fun σ2 H2 => wipe σ2 vs = wipe σ vs ∧ tt σ2 H2 fun b H3 =>
      if b = true then wi1 σ2 H3 fun J1 H4 => ∃ W1 : Nat → Nat → Hp → Prop, (∃ m, W1 0 m H4) ∧ ∀ j k H, W1 j k H →
        (J1.stop j H ∧ Nx H) ∨ (J1.go j H ∧ ∃ Nx1 : Hp → Prop, (∀ H', Nx1 H' → ∃ k', k' < k ∧ W1 (j + 1) k' H') ∧ ∀ x H', J1.yld j H x H' → g1 x (wipe σ2 vs1) H' fun σ3 H5 => wipe σ3 vs1 = wipe σ2 vs1 ∧ tt1 σ3 H5 fun b H6 =>
          if b = true then tk σ3 H6 fun y H7 => tv σ3 H7 fun z H8 => ∃ a kvs k, y = .ref a ∧ H8 a = some (.tup (k.map kV)) ∧ H8 D = some (.dT kvs) ∧ kvs.length < sizeLine ∧ Nx1 (upd H8 D (.dT (putK kvs k z)))
          else Nx1 H6)
      else Nx H3)
section
variable {X : Cx}
abbrev inB (X : Cx) (sc : Scope) (F : Cx → Prop) : Prop := ∀ (s : Shared) (H : Hp) (C : Addr) (cl : List (Str × Addr)) (fp : List Addr), F (X.blk s H sc (compEnvC sc cl C X.env) fp)
theorem d2_core {pins : List (Addr × Obj)} {s : Shared} {σ : St} {H : Hp} {Q : VK} {ke ve ta ia tb ib : Expr} {fa fb : List Expr} {sc : Scope} {own : List (Str × Nat)} {vs1 : List Nat} {ps ps' : Pos} {wi wi1 : TI} {g g1 : TG} {tt tt1 : TT} {tk tv : TE} {use : Option (Value → Sem Unit)} {Qf : Value → Shared → Prop}
    (hc : X.calm = true) (hu : X.A.units < cLine) (hN : X.N.Nodup) (I : Inv X pins σ H s) (hi : PI X ta ia wi) (ok : BlkOk X.N X.env.scope sc own) (hv : ∀ i ∈ vs1, i ∈ own.map (·.2))
    (hg : inB X sc fun Y => PG Y ta g) (ht : inB X sc fun Y => PTs Y fa tt) (hk : inB X sc fun Y => PE Y ke tk) (he : inB X sc fun Y => PE Y ve tv) (hs : ∀ x, foldedSetIterable ia X.env x = pure x)
    (hi1 : inB X sc fun Y => PI Y tb ib wi1) (hg1 : inB X sc fun Y => PG Y tb g1) (ht1 : inB X sc fun Y => PTs Y fb tt1) (hs1 : ∀ env x, foldedSetIterable ib env x = pure x)
    (h : tDc2 wi g tt wi1 g1 tt1 tk tv (own.map (·.2)) vs1 σ H Q)
    (hR : ∀ D C s' m H', Inv X pins σ H' s' → Q (.ref D) H' → s'.heap.Ns C m → FpOk X pins H' C → compPost (model X.prog X.w) X.A X.xe use Qf (.ref D) C (.ok .next) s') :
    wpAny (model X.prog X.w) X.A (comprehension (dC2 ke ve ta ia tb ib fa fb sc ps) sc X.env ps' newDict false (eval ia X.env) use) Qf X.xe s := by
  have free : ∀ y ∈ sc.names, y.2 = .free → ∃ c, X.env.cells.lookup y.1 = some c := fun y hy e => (ok.free y hy e).elim (fun z => I.ok.has _ (.inl z)) fun z => I.ok.has _ (.inr z)
  refine wpAny_comprehension_free (use := use) rfl hs (closure_ok free) ok.kind (fun y hy e => by rw [ok.uniq y hy, e]) (thn (hi.run pins s σ H _ I h) fun xv s1 hx => thn hx fun itv s2 h2 => ?_)
  obtain ⟨it, fp, tn, J, H2, e, I2, T, st2, f2, q⟩ := h2
  subst e
  refine wpAny_newObj_type (newEnv_comp ?_)
  generalize hD : s2.heap.objs.size = D
  obtain ⟨W, ⟨m0, w0⟩, turn⟩ := q D (I2.hok.fresh (Nat.le_of_eq hD))
  generalize hs3 : ({ s2 with heap := s2.heap.push { cls := .type "dict", data := .dict #[] } } : Shared) = s3
  have h3 : s3.heap = s2.heap.push { cls := .type "dict", data := .dict #[] } := by rw [← hs3]
  have I3 : Inv X pins σ (upd H2 D (.dT [])) s3 := by
    rw [← hs3]
    refine I2.laid (t' := s2.toks) (fun b o e => Heap.get?_push_of_some _ e) (Nat.le_of_eq hD) ?_
    rw [← hD]
    exact dt_empty s2.heap I2.big
  have f3 : ∀ b ∈ fp, FpOk X pins (upd H2 D (.dT [])) b ∧ b < s3.heap.objs.size := fun b hb => by
    obtain ⟨o, eo, _⟩ := T.obj _ _ st2 b hb
    have lt := Heap.lt_size eo
    refine ⟨⟨?_, (f2 b hb).2⟩, by rw [h3, Heap.size_push]; exact Nat.lt_succ_of_lt lt⟩
    rw [upd_ne (by rw [← hD]; exact Nat.ne_of_lt lt)]
    exact (f2 b hb).1
  have st3 : tn 0 s3.heap := T.keep _ _ _ st2 fun b _ o e => by rw [h3]; exact Heap.get?_push_of_some _ e
  have I4 := block_start I3 ok hN f3
  generalize hcl : cellsFrom (s3.heap.objs.size + 1) sc.names (cloFrom X.env.cells sc.names []) = cl at I4
  have pg := hg s3 (upd H2 D (.dT [])) s3.heap.objs.size cl fp
  have pt := ht s3 (upd H2 D (.dT [])) s3.heap.objs.size cl fp
  have pk := hk s3 (upd H2 D (.dT [])) s3.heap.objs.size cl fp
  have pe := he s3 (upd H2 D (.dT [])) s3.heap.objs.size cl fp
  have pi1 := hi1 s3 (upd H2 D (.dT [])) s3.heap.objs.size cl fp
  have pg1 := hg1 s3 (upd H2 D (.dT [])) s3.heap.objs.size cl fp
  have pt1 := ht1 s3 (upd H2 D (.dT [])) s3.heap.objs.size cl fp
  have nfp : ∀ b ∈ fp, (upd H2 D (.dT [])) b = none := fun b hb => (f3 b hb).1.1
  have goal0 : codeAny (model X.prog X.w) X.A (.compStart (dC2 ke ve ta ia tb ib fa fb sc ps) 0 (.ref it) (.ref D) (compEnvC sc cl s3.heap.objs.size X.env)) (compPost (model X.prog X.w) X.A X.xe use Qf (.ref D) s3.heap.objs.size)
      { s3 with heap := pushCells (s3.heap.push { cls := .type "dict", data := .dict #[] }) sc.names } := by
    generalize hce : compEnvC sc cl s3.heap.objs.size X.env = ce at I4 pg pt pk pe pi1 pg1 pt1 ⊢
    have cL : ce.locals = s3.heap.objs.size := by subst hce; rfl
    generalize hH3 : upd H2 D (.dT []) = H3 at I3 I4 pg pt pk pe pi1 pg1 pt1 w0 nfp f3
    generalize hs4 : ({ s3 with heap := pushCells (s3.heap.push { cls := .type "dict", data := .dict #[] }) sc.names } : Shared) = s4 at I4 ⊢
    have st4 : tn 0 s4.heap := T.keep _ _ _ st3 fun b _ o e => by rw [← hs4]; exact pushCells_keeps _ _ _ _ (Heap.get?_push_of_some _ e)
    have keepF : ∀ {σ' : St} {H' : Hp} {s' : Shared}, Inv (X.blk s3 H3 sc ce fp) [] σ' H' s' → (∀ b ∈ fp, H' b = none) → ∀ b ∈ fp, FpOk (X.blk s3 H3 sc ce fp) [] H' b := fun {σ' H' s'} I' hn b hb =>
      ⟨hn b hb, (I'.ok.exf b hb).1, I'.ok.exfs b hb, .inl hb, fun x c e => (I'.ok.exf b hb).2 x c e, fun p hp => by cases (show p ∈ ([] : List (Addr × Obj)) from hp)⟩
    -- what stands at the head of each turn
    let Hd : Nat → Shared → Prop := fun n s' => ∃ i H', Inv (X.blk s3 H3 sc ce fp) [] (wipe σ (own.map (·.2))) H' s' ∧ tn i s'.heap ∧ (∀ b ∈ fp, H' b = none) ∧ W i n H'
    refine codeAny_compStart_dict ?_ (T.self X.A 0 _ _ _ st4 ?_)
    all_goals
      refine d2_out (hs1 ce) Hd ?_ m0 ⟨0, H3, I4, st4, nfp, w0⟩
      rintro n s5 ⟨i, H5, I5, st5, n5, w5⟩
      rcases turn i n H5 w5 with ⟨stop, qq⟩ | ⟨go, Nx, hNx, step⟩
      · refine thnF (T.done (X.blk s3 H3 sc ce fp) rfl rfl rfl hc i [] s5 _ H5 (fun _ _ => False) I5 (keepF I5 n5) st5 stop) fun r s6 ⟨er, I6⟩ => ?_
        subst er
        have I7 : Inv X pins σ H5 s6 := I3.call' (ch := fp) I6.os I6.base I6.hok I6.bare fun b hb =>
          let z := (f3 b hb).1.2
          ⟨z.2.2.1, z.1, z.2.2.2.1, z.2.2.2.2⟩
        have nC : H5 s3.heap.objs.size = none := cL ▸ (show H5 ce.locals = none from I6.free)
        obtain ⟨m, hn, _⟩ := I6.loc
        exact hR D s3.heap.objs.size s6 m H5 I7 qq (cL ▸ (show s6.heap.Ns ce.locals m from hn)) (I3.fpOk (Nat.le_refl _) nC)
      · refine thnF (T.item (X.blk s3 H3 sc ce fp) rfl rfl rfl hc i [] s5 _ H5 (fun _ _ => False) I5 (keepF I5 n5) st5 go) fun r s6 ⟨u, er, h6⟩ => ?_
        subst er
        refine thnF h6 fun _ s7 ⟨x, H7, I7, r7, y7, st7, n7⟩ => ?_
        have P7 := I7.pinned (keepF I7 n7) (T.obj _ _ st7)
        refine thnF (pg.run _ s7 _ H7 x u _ P7 r7 (step x H7 y7)) fun _ s8 ⟨σ8, H8, I8, hw8, q8⟩ => ?_
        refine thnF (pt.run _ s8 σ8 H8 _ I8 q8) fun b s9 ⟨H9, I9, q9⟩ => ?_
        have back : ∀ {σ9 : St} {s' : Shared} {H' : Hp}, Inv (X.blk s3 H3 sc ce fp) ([] ++ pinsAt fp s7.heap) σ9 H' s' → (wipe σ (own.map (·.2))).length = σ9.length →
            (∀ (j : Nat) v, (wipe σ (own.map (·.2)))[j]? = some (some v) → σ9[j]? = some (some v)) → Nx H' → ∃ m, m < n ∧ Hd m s' := fun {σ9 s' H'} I' e1 e2 nx => by
          obtain ⟨m', lt, w'⟩ := hNx H' nx
          have stays : ∀ b ∈ fp, ∀ o, s7.heap.get? b = some o → s'.heap.get? b = some o ∧ H' b = none := fun b hb o e => by
            have z := I'.pin (b, o) (List.mem_append_right _ (List.mem_append_right _ (mem_pinsAt hb e)))
            exact ⟨z.1, z.2.1⟩
          refine ⟨m', lt, i + 1, H', (I'.unpinned (pins := [])).weak e1 e2, T.keep _ _ _ st7 fun b hb o e => (stays b hb o e).1, fun b hb => ?_, w'⟩
          obtain ⟨o, e, _⟩ := T.obj _ _ st7 b hb
          exact (stays b hb o e).2
        have e8 : (wipe σ (own.map (·.2))).length = σ8.length := by rw [← hw8, wipe_length]
        have k8 : ∀ (j : Nat) v, (wipe σ (own.map (·.2)))[j]? = some (some v) → σ8[j]? = some (some v) := fun j v e => (wipe_some (hw8.symm ▸ e)).1
        have k9 : ∀ (j : Nat) v, (wipe σ (own.map (·.2)))[j]? = some (some v) → (wipe σ8 vs1)[j]? = some (some v) := fun j v e => by
          obtain ⟨z1, z2⟩ := wipe_some (hw8.symm ▸ e)
          exact (wipe_out fun z => z2 (hv j z)).trans z1
        rcases b with _ | _
        · exact back I9 e8 k8 q9
        · refine thnF (pi1.run _ s9 σ8 H9 _ I9 q9) fun xv s10 hx => thnF hx fun itv s11 h11 => ?_
          obtain ⟨it1, fp1, tn1, J1, H11, e1, I11, T1, st11, f11, W1, ⟨m1, w1⟩, turn1⟩ := h11
          subst e1
          have keepG : ∀ {H' : Hp}, (∀ b ∈ fp1, H' b = none) → ∀ b ∈ fp1, FpOk (X.blk s3 H3 sc ce fp) ([] ++ pinsAt fp s7.heap) H' b := fun hn b hb => ⟨hn b hb, (f11 b hb).2⟩
          let Hd1 : Nat → Shared → Prop := fun k s' => ∃ j H', Inv (X.blk s3 H3 sc ce fp) ([] ++ pinsAt fp s7.heap) (wipe σ8 vs1) H' s' ∧ tn1 j s'.heap ∧ (∀ b ∈ fp1, H' b = none) ∧ W1 j k H'
          refine d2_start1 ?_ (T1.self X.A 0 _ _ _ st11 ?_)
          all_goals
            refine d2_in Hd1 ?_ m1 ⟨0, H11, I11.weak (wipe_length _ _) (fun j v e => (wipe_some e).1), st11, fun b hb => (f11 b hb).1, w1⟩
            rintro k s12 ⟨j, H12, I12, st12, n12, w12⟩
            rcases turn1 j k H12 w12 with ⟨stop1, nx1⟩ | ⟨go1, Nx1, hNx1, step1⟩
            · refine thnF (T1.done (X.blk s3 H3 sc ce fp) rfl rfl rfl hc j _ s12 (wipe σ8 vs1) H12 (fun _ _ => False) I12 (keepG n12) st12 stop1) fun r s13 ⟨er, I13⟩ => ?_
              subst er
              exact back I13 (e8.trans (wipe_length σ8 vs1).symm) k9 nx1
            · refine thnF (T1.item (X.blk s3 H3 sc ce fp) rfl rfl rfl hc j _ s12 (wipe σ8 vs1) H12 (fun _ _ => False) I12 (keepG n12) st12 go1) fun r s13 ⟨u1, er, h13⟩ => ?_
              subst er
              refine thnF h13 fun _ s14 ⟨x1, H14, I14, r14, y14, st14, n14⟩ => ?_
              have P14 := I14.pinned (keepG n14) (T1.obj _ _ st14)
              refine thnF (pg1.run _ s14 (wipe σ8 vs1) H14 x1 u1 _ P14 r14 (step1 x1 H14 y14)) fun _ s15 ⟨σ15, H15, I15, hw15, q15⟩ => ?_
              refine thnF (pt1.run _ s15 σ15 H15 _ I15 q15) fun b1 s16 ⟨H16, I16, q16⟩ => ?_
              have back1 : ∀ {s' : Shared} {H' : Hp}, Inv (X.blk s3 H3 sc ce fp) (([] ++ pinsAt fp s7.heap) ++ pinsAt fp1 s14.heap) σ15 H' s' → Nx1 H' → ∃ m, m < k ∧ Hd1 m s' := fun {s' H'} I' nx => by
                obtain ⟨m', lt, w'⟩ := hNx1 H' nx
                have stays : ∀ b ∈ fp1, ∀ o, s14.heap.get? b = some o → s'.heap.get? b = some o ∧ H' b = none := fun b hb o e => by
                  have z := I'.pin (b, o) (List.mem_append_right _ (List.mem_append_right _ (mem_pinsAt hb e)))
                  exact ⟨z.1, z.2.1⟩
                refine ⟨m', lt, j + 1, H', I'.unpinned.weak (by rw [← hw15, wipe_length]) (fun j v e => (wipe_some (hw15.symm ▸ e)).1), T1.keep _ _ _ st14 fun b hb o e => (stays b hb o e).1, fun b hb => ?_, w'⟩
                obtain ⟨o, e, _⟩ := T1.obj _ _ st14 b hb
                exact (stays b hb o e).2
              rcases b1 with _ | _
              · exact back1 I16 q16
              · refine thnF (pk.run _ s16 σ15 H16 _ I16 q16) fun y s17 ⟨yk, H17, I17, r17, q17⟩ => ?_
                refine thnF (pe.run _ s17 σ15 H17 _ I17 q17) fun z s18 ⟨yv, H18, I18, r18, a, kvs, kk, ey, ha, hDD, hz, nx⟩ => ?_
                subst ey
                obtain rfl : y = Value.ref a := r17
                exact d2_store (X := X.blk s3 H3 sc ce fp) hu I18 hDD ha hz r18 fun s19 I19 => back1 I19 nx
  subst hcl
  exact goal0
/-- as a value -/
theorem pe_dc2 {ke ve ta ia tb ib : Expr} {fa fb : List Expr} {sc : Scope} {own : List (Str × Nat)} {vs1 : List Nat} {ps : Pos} {wi wi1 : TI} {g g1 : TG} {tt tt1 : TT} {tk tv : TE}
    (hc : X.calm = true) (hu : X.A.units < cLine) (hN : X.N.Nodup) (hi : PI X ta ia wi) (ok : BlkOk X.N X.env.scope sc own) (hv : ∀ i ∈ vs1, i ∈ own.map (·.2))
    (hg : inB X sc fun Y => PG Y ta g) (ht : inB X sc fun Y => PTs Y fa tt) (hi1 : inB X sc fun Y => PI Y tb ib wi1) (hg1 : inB X sc fun Y => PG Y tb g1) (ht1 : inB X sc fun Y => PTs Y fb tt1)
    (hk : inB X sc fun Y => PE Y ke tk) (he : inB X sc fun Y => PE Y ve tv) (hs : ∀ x, foldedSetIterable ia X.env x = pure x := by intro _; rfl) (hs1 : ∀ env x, foldedSetIterable ib env x = pure x := by intro _ _; rfl) :
    PE X (.DictComp ke ve [⟨ta, ia, fa, 0⟩, ⟨tb, ib, fb, 0⟩] sc ps) (tDc2 wi g tt wi1 g1 tt1 tk tv (own.map (·.2)) vs1) := by
  refine ⟨fun pins s σ H Q I h => ?_⟩
  rw [arm_eval_DictComp]
  refine d2_core hc hu hN I hi ok hv hg ht hk he hs hi1 hg1 ht1 hs1 h fun D C s' m H' I' q hn f => ⟨m, hn, fun h'' sb => ?_⟩
  obtain ⟨a0, a1, a2, a3, a4, a5⟩ := f
  exact ⟨.ref D, H', I'.turned (t' := s'.toks) (fun b o hb e => (sb.2 b hb).trans e) a0 a1 a3 a4 a5, rfl, q⟩
end
end L2
end
section
set_option maxRecDepth 100000
set_option maxHeartbeats 4000000
namespace L2
open PySem PySem.Spec PyProof.Rows
/-! ### loops by any step over a range -/
theorem rng_W {lo : Int} {n L : Nat} {H0 : Hp} {Qd : Hp → Prop} {B : V → (Hp → Prop) → Hp → Prop} (hn : n = L) (Pv : Nat → Hp → Prop) (h0 : Pv 0 H0) (hs : ∀ i H, i < L → Pv i H → B (.int (lo + i)) (Pv (i + 1)) H) (hd : ∀ H, Pv L H → Qd H) :
    ∃ W : Nat → Nat → Hp → Prop, (∃ m, W 0 m H0) ∧ ∀ i m H, W i m H → ((Itr lo n).stop i H ∧ Qd H) ∨ ((Itr lo n).go i H ∧ ∃ Nx : Hp → Prop, (∀ H', Nx H' → ∃ m', m' < m ∧ W (i + 1) m' H') ∧ ∀ x H', (Itr lo n).yld i H x H' → B x Nx H') := by
  subst hn
  refine ⟨fun i m H => m = n - i ∧ i ≤ n ∧ Pv i H, ⟨n, by simp, Nat.zero_le _, h0⟩, ?_⟩
  rintro i m H ⟨rfl, hi, p⟩
  by_cases lt : i < n
  · refine .inr ⟨lt, Pv (i + 1), fun H' p' => ⟨n - (i + 1), by omega, rfl, lt, p'⟩, fun x H' y => ?_⟩
    obtain ⟨e1, e2⟩ := y
    subst e1 e2
    exact hs i _ lt p
  · obtain rfl : i = n := by omega
    exact .inl ⟨Nat.le_refl _, hd H p⟩
/-! ### a list of rows of ints -/
def rowV (n : Nat) (f : Nat → Int) : List V := (List.range n).map fun b => V.int (f b)
theorem rowV_len {n : Nat} {f : Nat → Int} : (rowV n f).length = n := by unfold rowV; rw [List.length_map, List.length_range]
theorem rowV_get {n : Nat} {f : Nat → Int} {b : Nat} (h : b < n) : (rowV n f)[b]? = some (.int (f b)) := by
  unfold rowV
  rw [List.getElem?_map, List.getElem?_range h]
  rfl
theorem rowV_congr {n : Nat} {f g : Nat → Int} (h : ∀ b, b < n → f b = g b) : rowV n f = rowV n g := by
  unfold rowV
  refine List.map_congr_left fun b hb => ?_
  rw [h b (List.mem_range.mp hb)]
theorem rowV_set {n : Nat} {f : Nat → Int} {b : Nat} {v : Int} : (rowV n f).set b (.int v) = rowV n fun y => if y = b then v else f y := by
  refine List.ext_getElem? fun i => ?_
  rw [List.getElem?_set, rowV_len]
  by_cases h : i < n
  · rw [rowV_get h, rowV_get h]
    by_cases e : b = i
    · subst e
      rw [if_pos rfl, if_pos h, if_pos rfl]
    · rw [if_neg e, if_neg fun z => e z.symm]
  · rw [List.getElem?_eq_none (by rw [rowV_len]; omega), List.getElem?_eq_none (by rw [rowV_len]; omega)]
    split
    · exact if_neg (by omega)
    · rfl
theorem rowV_rep {n : Nat} {z : Int} : (List.replicate n [V.int z]).flatten = rowV n fun _ => z := by
  induction n with
  | zero => rfl
  | succ n ih =>
    rw [List.replicate_succ', List.flatten_append, ih]
    unfold rowV
    rw [List.range_succ, List.map_append]
    rfl
theorem rowV_ints {n : Nat} {f : Nat → Int} : rowV n f = ((List.range n).map f).map V.int := by unfold rowV; rw [List.map_map]; rfl
theorem ix_nat {n j : Nat} (hj : j < n) : ixN n (j : Int) = some j := by
  unfold ixN
  rw [if_pos (by omega), if_pos (by omega), Int.toNat_natCast]
def RowsAt (H : Hp) (g : Addr) (M : Nat → Nat → Int) (n : Nat) : Prop := ∃ rs : List Addr, H g = some (.lst (rs.map V.ref)) ∧ rs.length = n ∧ ∀ a r, rs[a]? = some r → H r = some (.lst (rowV n (M a)))
/-- the rows stand apart, they may be written -/
def GridAt (H0 H : Hp) (g : Addr) (M : Nat → Nat → Int) (n : Nat) : Prop := ∃ rs : List Addr, H g = some (.lst (rs.map V.ref)) ∧ rs.length = n ∧ rs.Nodup ∧ (g ∉ rs ∧ ∀ r ∈ rs, H0 r = none) ∧ ∀ a r, rs[a]? = some r → H r = some (.lst (rowV n (M a)))
theorem GridAt.rows {H0 H : Hp} {g : Addr} {M : Nat → Nat → Int} {n : Nat} (h : GridAt H0 H g M n) : RowsAt H g M n := by
  obtain ⟨rs, h1, h2, _, _, h5⟩ := h
  exact ⟨rs, h1, h2, h5⟩
theorem RowsAt.same {H H' : Hp} {g : Addr} {M : Nat → Nat → Int} {n : Nat} (e : Same H H') (h : RowsAt H g M n) : RowsAt H' g M n := by
  obtain ⟨rs, h1, h2, h3⟩ := h
  exact ⟨rs, e _ _ h1, h2, fun a r h => e _ _ (h3 a r h)⟩
theorem RowsAt.congr {H : Hp} {g : Addr} {M M' : Nat → Nat → Int} {n : Nat} (e : ∀ a b, a < n → b < n → M a b = M' a b) (h : RowsAt H g M n) : RowsAt H g M' n := by
  obtain ⟨rs, h1, h2, h3⟩ := h
  refine ⟨rs, h1, h2, fun a r ha => ?_⟩
  rw [h3 a r ha]
  have : a < n := by rw [← h2]; exact (List.getElem?_eq_some_iff.mp ha).1
  rw [rowV_congr fun b hb => e a b this hb]
theorem GridAt.congr {H0 H : Hp} {g : Addr} {M M' : Nat → Nat → Int} {n : Nat} (e : ∀ a b, a < n → b < n → M a b = M' a b) (h : GridAt H0 H g M n) : GridAt H0 H g M' n := by
  obtain ⟨rs, h1, h2, h3, h4, h5⟩ := h
  refine ⟨rs, h1, h2, h3, h4, fun a r ha => ?_⟩
  rw [h5 a r ha]
  have : a < n := by rw [← h2]; exact (List.getElem?_eq_some_iff.mp ha).1
  rw [rowV_congr fun b hb => e a b this hb]
/-- one cell looked at -/
theorem RowsAt.get {H : Hp} {g : Addr} {M : Nat → Nat → Int} {n a b : Nat} (h : RowsAt H g M n) (ha : a < n) (hb : b < n) : ∃ (rs : List Addr) (r : Addr), H g = some (.lst (rs.map V.ref)) ∧ (rs.map V.ref)[a]? = some (V.ref r) ∧ H r = some (.lst (rowV n (M a))) ∧ (rowV n (M a))[b]? = some (V.int (M a b)) := by
  obtain ⟨rs, h1, h2, h3⟩ := h
  obtain ⟨r, hr⟩ : ∃ r, rs[a]? = some r := ⟨rs[a], List.getElem?_eq_getElem (by omega)⟩
  exact ⟨rs, r, h1, by rw [List.getElem?_map, hr]; rfl, h3 a r hr, rowV_get hb⟩
/-- one cell written -/
theorem GridAt.put {H0 H : Hp} {g : Addr} {M : Nat → Nat → Int} {n a b : Nat} (v : Int) (h : GridAt H0 H g M n) (ha : a < n) (hb : b < n) : ∃ (rs : List Addr) (r : Addr), H g = some (.lst (rs.map V.ref)) ∧ (rs.map V.ref)[a]? = some (V.ref r) ∧ H r = some (.lst (rowV n (M a))) ∧
    H0 r = none ∧ GridAt H0 (upd H r (.lst ((rowV n (M a)).set b (.int v)))) g (fun x y => if x = a ∧ y = b then v else M x y) n := by
  obtain ⟨rs, h1, h2, h3, h4, h5⟩ := h
  obtain ⟨r, hr⟩ : ∃ r, rs[a]? = some r := ⟨rs[a], List.getElem?_eq_getElem (by omega)⟩
  refine ⟨rs, r, h1, by rw [List.getElem?_map, hr]; rfl, h5 a r hr, h4.2 r (List.mem_of_getElem? hr), rs, ?_, h2, h3, h4, fun x q hq => ?_⟩
  · rw [upd_ne fun z => h4.1 (by rw [z]; exact List.mem_of_getElem? hr)]
    exact h1
  · by_cases e : x = a
    · subst e
      rw [hr] at hq
      cases hq
      rw [upd_same, rowV_set]
      congr 2
      refine rowV_congr fun y _ => ?_
      by_cases e : y = b
      · simp only [e, and_self, if_true]
      · simp only [e, and_false, if_false]
    · have : q ≠ r := fun z => e (by rw [z] at hq; exact nd_ix h3 hq hr)
      rw [upd_ne this, h5 x q hq]
      congr 2
      refine rowV_congr fun y _ => ?_
      simp only [e, false_and, if_false]
end L2
end
section
set_option maxRecDepth 100000
set_option maxHeartbeats 4000000
namespace L2
open PySem PySem.Spec PyProof.Rows
/-! ### tables by couples of whole numbers -/
abbrev key2 (t c : Nat) : List Key := [.inl (t : Int), .inl (c : Int)]
theorem key2_inj {t c t' c' : Nat} (h : key2 t c = key2 t' c') : t = t' ∧ c = c' := by
  simp only [key2, List.cons.injEq, Sum.inl.injEq] at h
  omega
theorem key2_kV {t c : Nat} : (key2 t c).map kV = [.int (t : Int), .int (c : Int)] := rfl
section
variable {κ : Type} [DecidableEq κ]
theorem valV_none : ∀ {ks : List (κ × V)} {k : κ}, (∀ p ∈ ks, p.1 ≠ k) → valV ks k = none
  | [], _, _ => rfl
  | p :: r, k, h => by
    rw [valV_neg (h p List.mem_cons_self)]
    exact valV_none fun q hq => h q (List.mem_cons_of_mem _ hq)
theorem valV_mem : ∀ {ks : List (κ × V)}, ks.Pairwise (fun a b => a.1 ≠ b.1) → ∀ p ∈ ks, valV ks p.1 = some p.2
  | [], _, p, hp => by cases hp
  | a :: r, h, p, hp => by
    rw [List.pairwise_cons] at h
    rcases List.mem_cons.mp hp with rfl | hp
    · exact valV_pos rfl
    · rw [valV_neg (h.1 p hp)]
      exact valV_mem h.2 p hp
end
/-- k cells of row t, from the diagonal on -/
def rowT (M : Nat → Nat → Int) (t k : Nat) : List (List Key × V) := (List.range k).map fun j => (key2 t (t + j), V.int (M t (t + j)))
/-- the first i rows -/
def tabL (M : Nat → Nat → Int) (T i : Nat) : List (List Key × V) := (List.range i).flatMap fun t => rowT M t (T + 1 - t)
theorem tabL_succ {M : Nat → Nat → Int} {T i : Nat} : tabL M T (i + 1) = tabL M T i ++ rowT M i (T + 1 - i) := by
  unfold tabL
  rw [List.range_succ, List.flatMap_append]
  simp
theorem rowT_succ {M : Nat → Nat → Int} {t k : Nat} : rowT M t (k + 1) = rowT M t k ++ [(key2 t (t + k), V.int (M t (t + k)))] := by
  unfold rowT
  rw [List.range_succ, List.map_append]
  rfl
theorem rowT_mem {M : Nat → Nat → Int} {t k : Nat} {p : List Key × V} (h : p ∈ rowT M t k) : ∃ j, j < k ∧ p = (key2 t (t + j), V.int (M t (t + j))) := by
  obtain ⟨j, hj, e⟩ := List.mem_map.mp h
  exact ⟨j, List.mem_range.mp hj, e.symm⟩
theorem tabL_mem {M : Nat → Nat → Int} {T i : Nat} {p : List Key × V} (h : p ∈ tabL M T i) : ∃ t c, t < i ∧ t ≤ c ∧ c ≤ T ∧ p = (key2 t c, V.int (M t c)) := by
  obtain ⟨t, ht, hp⟩ := List.mem_flatMap.mp h
  obtain ⟨j, hj, e⟩ := rowT_mem hp
  exact ⟨t, t + j, List.mem_range.mp ht, by omega, by omega, e⟩
theorem rowT_len {M : Nat → Nat → Int} {t k : Nat} : (rowT M t k).length = k := by unfold rowT; rw [List.length_map, List.length_range]
theorem tabL_len {M : Nat → Nat → Int} {T : Nat} (hT : T ≤ 24) : ∀ i, (tabL M T i).length ≤ i * 25
  | 0 => by unfold tabL; simp
  | i + 1 => by
    have := tabL_len (M := M) hT i
    rw [tabL_succ, List.length_append, rowT_len]
    omega
theorem tabL_put {M : Nat → Nat → Int} {T i j : Nat} {v : V} : putK (tabL M T i ++ rowT M i j) (key2 i (i + j)) v = (tabL M T i ++ rowT M i j) ++ [(key2 i (i + j), v)] := by
  refine putK_new _ (valV_none fun p hp e => ?_)
  rcases List.mem_append.mp hp with hp | hp
  · obtain ⟨t, c, h1, h2, h3, rfl⟩ := tabL_mem hp
    have := key2_inj e
    omega
  · obtain ⟨k, h1, rfl⟩ := rowT_mem hp
    have := key2_inj e
    omega
theorem tabL_pw {M : Nat → Nat → Int} {T : Nat} : ∀ i, (tabL M T i).Pairwise fun a b => a.1 ≠ b.1
  | 0 => List.Pairwise.nil
  | i + 1 => by
    rw [tabL_succ, List.pairwise_append]
    refine ⟨tabL_pw i, ?_, fun p hp q hq e => ?_⟩
    · have : ∀ k, (rowT M i k).Pairwise fun a b => a.1 ≠ b.1 := by
        intro k
        induction k with
        | zero => exact List.Pairwise.nil
        | succ k ih =>
          rw [rowT_succ, List.pairwise_append]
          refine ⟨ih, by simp, fun p hp q hq e => ?_⟩
          obtain ⟨j, hj, rfl⟩ := rowT_mem hp
          rw [List.mem_singleton.mp hq] at e
          have := key2_inj e
          omega
      exact this _
    · obtain ⟨t, c, h1, h2, h3, rfl⟩ := tabL_mem hp
      obtain ⟨j, hj, rfl⟩ := rowT_mem hq
      have := key2_inj e
      omega
/-- the whole table -/
def tabM (M : Nat → Nat → Int) (T : Nat) : List (List Key × V) := tabL M T (T + 1)
theorem tabM_ok {M : Nat → Nat → Int} {T : Nat} : ∀ p ∈ tabM M T, ∃ t c, t ≤ c ∧ c ≤ T ∧ p.1 = key2 t c ∧ valV (tabM M T) p.1 = some (.int (M t c)) := fun p hp => by
  have hv := valV_mem (tabL_pw (M := M) (T := T) (T + 1)) p hp
  obtain ⟨t, c, h1, h2, h3, e⟩ := tabL_mem hp
  refine ⟨t, c, h2, h3, by rw [e], ?_⟩
  show valV (tabL M T (T + 1)) p.1 = _
  rw [hv, e]
theorem tabM_len {M : Nat → Nat → Int} {T : Nat} (hT : T ≤ 24) : (tabM M T).length ≤ 1000 := by
  have := tabL_len (M := M) hT (T + 1)
  unfold tabM
  omega
theorem tabM_congr {M M' : Nat → Nat → Int} {T : Nat} (h : ∀ t c, t ≤ c → c ≤ T → M t c = M' t c) : tabM M T = tabM M' T := by
  unfold tabM
  have : ∀ i, i ≤ T + 1 → tabL M T i = tabL M' T i := by
    intro i
    induction i with
    | zero => intro _; rfl
    | succ i ih =>
      intro hi
      rw [tabL_succ, tabL_succ, ih (by omega)]
      congr 1
      unfold rowT
      refine List.map_congr_left fun j hj => ?_
      rw [h i (i + j) (by omega) (by have := List.mem_range.mp hj; omega)]
  exact this _ (Nat.le_refl _)
end L2
end
section
set_option maxRecDepth 100000
set_option maxHeartbeats 4000000
namespace L2
open PySem PySem.Spec PyProof.Rows
theorem for_enum0 {K : PySem.W.Frag} {a : Addr} {xs : List V} {g : TG} {tb : TS} {D : Ends} {σ : St} {H : Hp} (Pv : Nat → St → Hp → Prop) (h0 : Pv 0 σ H) (hl : ∀ i σ H, i ≤ xs.length → Pv i σ H → SqL K H a xs)
    (hs : ∀ i x σ H T, xs[i]? = some x → Pv i σ H → H T = none → g (.ref T) σ (upd H T (.tup [.int (i : Nat), x])) fun σ2 H2 => tb { D with nx := Pv (i + 1), ct := Pv (i + 1), bk := D.nx } σ2 H2) (hd : ∀ σ H, Pv xs.length σ H → D.nx σ H) :
    ∃ W : Nat → Nat → St → Hp → Prop, (∃ m, W 0 m σ H) ∧ ∀ i m σ H, W i m σ H →
      ((Ite K a).stop i H ∧ D.nx σ H) ∨ ((Ite K a).go i H ∧ ∃ N : St → Hp → Prop, (∀ σ' H', N σ' H' → ∃ m', m' < m ∧ W (i + 1) m' σ' H') ∧ ∀ x H', (Ite K a).yld i H x H' → g x σ H' fun σ2 H2 => tb { D with nx := N, ct := N, bk := D.nx } σ2 H2) := by
  refine ⟨fun i m σ H => m = xs.length - i ∧ i ≤ xs.length ∧ Pv i σ H, ⟨_, rfl, Nat.zero_le _, h0⟩, fun i m σ H w => ?_⟩
  obtain ⟨rfl, hi, p⟩ := w
  have q := hl i σ H hi p
  rcases Nat.lt_or_ge i xs.length with hlt | hge
  · refine .inr ⟨⟨xs, _, q, List.getElem?_eq_getElem hlt⟩, Pv (i + 1), fun σ' H' p' => ⟨xs.length - (i + 1), by omega, rfl, hlt, p'⟩, ?_⟩
    rintro x H' ⟨T, y, rfl, hT, rfl, hy⟩
    exact hs i y σ H T (hy xs q) p hT
  · obtain rfl : i = xs.length := by omega
    exact .inl ⟨⟨xs, q, Nat.le_refl _⟩, hd σ H p⟩
theorem PairT.un {K : PySem.W.Frag} {H : Hp} {x : V} {c : Int × Int} (h : PairT H x c) {σ : L2.St} {i j n : Nat} (hn : n = 2) {Q : L2.St → Hp → Prop} (q : Q ((σ.set i (some (.int c.1))).set j (some (.int c.2))) H) : gTup K n (gCons (gName i) (gCons (gName j) gNil)) x σ H Q := by
  subst hn
  obtain ⟨t, rfl, h⟩ := h
  exact ⟨t, _, rfl, SqT.of h, rfl, _, _, rfl, _, _, rfl, rfl, q⟩
theorem PairT.i0 {K : PySem.W.Frag} {H : Hp} {x : V} {c : Int × Int} (h : PairT H x c) {Q : VK} (q : Q (.int c.1) H) : rIx K x (.int 0) H Q := by
  obtain ⟨t, rfl, h⟩ := h
  exact .inr (.inl ⟨t, _, 0, _, rfl, rfl, SqT.of h, rfl, q⟩)
theorem PairT.i1 {K : PySem.W.Frag} {H : Hp} {x : V} {c : Int × Int} (h : PairT H x c) {Q : VK} (q : Q (.int c.2) H) : rIx K x (.int 1) H Q := by
  obtain ⟨t, rfl, h⟩ := h
  exact .inr (.inl ⟨t, _, 1, _, rfl, rfl, SqT.of h, rfl, q⟩)
theorem flt_take {α : Type} {p : α → Bool} {l : List α} {i : Nat} {c : α} (h : l[i]? = some c) (b : Bool) (hb : p c = b) : ((l.take (i + 1)).filter p).length = ((l.take i).filter p).length + (if b then 1 else 0) := by
  rw [take_get h, List.filter_append, List.length_append, List.filter_cons, hb]
  cases b <;> rfl
theorem none_of {H H' : Hp} {a : Addr} (e : Same H H') (h : H' a = none) : H a = none := by
  cases q : H a with
  | none => rfl
  | some o => rw [e _ _ q] at h; cases h
/-- a rain: first, last, least, most -/
abbrev Q4 := Int × Int × Int × Int
abbrev q4V (r : Q4) : List V := [.int r.1, .int r.2.1, .int r.2.2.1, .int r.2.2.2]
def QuadT (H : Hp) (x : V) (r : Q4) : Prop := ∃ t, x = .ref t ∧ H t = some (.tup (q4V r))
theorem QuadT.same {H H' : Hp} (e : Same H H') {x : V} {r : Q4} (h : QuadT H x r) : QuadT H' x r := by
  obtain ⟨t, rfl, h⟩ := h
  exact ⟨t, rfl, e _ _ h⟩
theorem QuadT.mut {H : Hp} {l : Addr} {xs : List V} {o : HO} (hl : H l = some (.lst xs)) {x : V} {r : Q4} (h : QuadT H x r) : QuadT (upd H l o) x r := by
  obtain ⟨t, rfl, h⟩ := h
  refine ⟨t, rfl, ?_⟩
  rw [upd_ne (fun z => by rw [z, hl] at h; cases h)]
  exact h
theorem QuadT.bx {sa : Addr} {H H' : Hp} (hs : Stk H sa) (e : Bx sa H H') {x : V} {r : Q4} (h : QuadT H x r) : QuadT H' x r := by
  obtain ⟨t, rfl, h⟩ := h
  exact ⟨t, rfl, e.tup (ne_stk hs h fun _ z => by cases z) h⟩
theorem QuadT.ix {K : PySem.W.Frag} {H : Hp} {x : V} {r : Q4} (h : QuadT H x r) {i : Nat} {v : V} (hi : (q4V r)[i]? = some v) {Q : VK} (q : Q v H) : rIx K x (.int (i : Nat)) H Q := by
  obtain ⟨t, rfl, h⟩ := h
  exact .inr (.inl ⟨t, _, _, v, rfl, rfl, SqT.of h, at_of rfl hi, q⟩)
theorem QuadT.un {K : PySem.W.Frag} {H : Hp} {x : V} {r : Q4} (h : QuadT H x r) {σ : L2.St} {i j k l n : Nat} (hn : n = 4) {Q : L2.St → Hp → Prop} (q : Q ((((σ.set i (some (.int r.1))).set j (some (.int r.2.1))).set k (some (.int r.2.2.1))).set l (some (.int r.2.2.2))) H) :
    gTup K n (gCons (gName i) (gCons (gName j) (gCons (gName k) (gCons (gName l) gNil)))) x σ H Q := by
  subst hn
  obtain ⟨t, rfl, h⟩ := h
  exact ⟨t, _, rfl, SqT.of h, rfl, _, _, rfl, _, _, rfl, _, _, rfl, _, _, rfl, rfl, q⟩
theorem gnE {i : Nat} {x : V} {σ : L2.St} {H : Hp} {Q : L2.St → Hp → Prop} (h : Q (σ.set i (some x)) H) : gName i x σ H Q := h
end L2
end
section
set_option maxRecDepth 100000
set_option maxHeartbeats 4000000
namespace K26
open PySem PySem.Spec PyProof.Rows L2
abbrev af (d : Int) (l : Addr) : List (Str × V) := [("days_number", V.int d), ("rains_list", V.ref l)]
theorem af_days (d : Int) (l : Addr) : (af d l).lookup ("days_number" : Str) = some (.int d) := by simp [List.lookup]
theorem af_rains (d : Int) (l : Addr) : (af d l).lookup ("rains_list" : Str) = some (.ref l) := by
  have e : (("rains_list" : Str) == ("days_number" : Str)) = false := by decide +kernel
  simp [List.lookup, e]
theorem af_no {d : Int} {l : Addr} {x : Str} (h1 : (x == ("days_number" : Str)) = false) (h2 : (x == ("rains_list" : Str)) = false) : (af d l).lookup x = none := by
  simp [List.lookup, h1, h2]
def AlmAt (K : PySem.W.Frag) (H : Hp) (p : Addr) (d : Int) (rs : List Q4) : Prop := ∃ dx l xs, H p = some (.ins (cA K) dx (af d l)) ∧ H l = some (.lst xs) ∧ Paired (QuadT H) xs rs
theorem AlmAt.same {K : PySem.W.Frag} {H H' : Hp} {p : Addr} {d : Int} {rs : List Q4} (e : Same H H') (h : AlmAt K H p d rs) : AlmAt K H' p d rs := by
  obtain ⟨dx, l, xs, h1, h2, h3⟩ := h
  exact ⟨dx, l, xs, e _ _ h1, e _ _ h2, Paired.mapP h3 fun _ _ z => z.same e⟩
/-- a rain that is allowed -/
def GoodR (r : Q4) : Prop := 1 ≤ r.1 ∧ r.1 ≤ r.2.1 ∧ 0 ≤ r.2.2.1 ∧ r.2.2.1 ≤ r.2.2.2 ∧ r.2.2.2 ≤ 10 ^ 12
section
variable {P : Program} {w : World} {K : PySem.W.Frag} {mg : Str → Option Value} {base : Heap}
def spEach (K : PySem.W.Frag) : Sp := fun vs H Q E => ∃ (z : Str) (l : Addr) (ns : List Int) (m : Int), vs = [.str z, .ref l] ∧ H l = some (.lst (ns.map V.int)) ∧ (z, He.Dv.int m) ∈ limits ∧ (∀ n ∈ ns, n ≤ m) ∧ Q .non H
theorem ok_check_each (T : Txt w K mg) : Ok P w K mg base (L2.CX P w) 5 "check_each" ["what", "numbers"] (spEach K) := by
  refine Ok.defX (f_check_each T) (fun _ _ _ _ _ _ us hl => match us, hl with | [_, _], _ => rfl) sc_check_each (fun vs H Q E h => ?_) (fun f cdv A outer s H vs Q E hr h tk => ?_)
  · obtain ⟨z, l, ns, m, rfl, _⟩ := h
    rfl
  · obtain ⟨z, l, ns, m, rfl, hl, hz, hn, k⟩ := h
    refine ⟨_, (pss_one (ps_for (passes_of rfl) rfl (pi_listK (K := K) rfl (pv 1)) (pg_name (i := 2) sc_check_each.nd rfl (by first | exact Or.inl rfl | exact Or.inr rfl))
        (pss_one (ps_expr (pe_okS (ok_check T) (hr.mono (by first | decide | omega)) rfl (fun σ => passAt tk σ) (pa_cons (pv 0) (pa_cons (pv 2) pa_nil))))))), ?_⟩
    refine ⟨_, rfl, l, rfl, ⟨_, SqL.of hl⟩, for_list (K := K) (a := l) (xs := ns.map V.int) (fun i σ H' => ∃ v2, σ = [some (.str z), some (.ref l), v2] ∧ H' = H) ⟨_, rfl, rfl⟩ (fun _ _ _ _ ⟨_, _, e⟩ => by rw [e]; exact SqL.of hl) ?_ ?_⟩
    · rintro i x σ H' hx ⟨v2, rfl, rfl⟩
      obtain ⟨n, hi, rfl⟩ := ints_get hx
      have hnm := hn n (List.mem_of_getElem? hi)
      exact ⟨_, rfl, _, rfl, z, n, m, rfl, hz, fun _ => ⟨_, rfl, rfl⟩, fun c => absurd hnm (by omega)⟩
    · rintro σ H' ⟨v2, rfl, rfl⟩
      exact k
def spAInit (K : PySem.W.Frag) : Sp := fun vs H Q E => ∃ p dx d s ys rs, vs = [.ref p, .int d, .ref s] ∧ H p = some (.ins (cA K) dx []) ∧ H s = some (.lst ys) ∧ Paired (QuadT H) ys rs ∧ 1 ≤ d ∧ d ≤ 24 ∧ rs.length ≤ 40 ∧ (∀ r ∈ rs, GoodR r) ∧ ∀ H', But p H H' → AlmAt K H' p d rs → Q .non H'
theorem okk_Almanac (T : Txt w K mg) : OkK P w K mg base (L2.CX P w) 6 "Almanac" (cA K) ["self", "days", "rains"] (spAInit K) := by
  refine OkK.defX (fm_Almanac___init__ T) (mk_Almanac T) (g_Almanac T) (fun _ _ _ _ _ _ us hl => match us, hl with | [_, _, _], _ => rfl) sc_Almanac___init__ (fun vs H Q E h => ?_) (fun cdv A outer s H vs Q E hr h tk => ?_)
  · obtain ⟨p, dx, d, s, ys, rs, rfl, _⟩ := h
    rfl
  · obtain ⟨p, dx, d, sd, ys, rs, rfl, hp, hS, hP, d1, d2, hl, hg, k⟩ := h
    have hyl : ys.length ≤ 40 := by rw [Paired.length hP]; exact hl
    refine ⟨_, (pss_cons (ps_expr (pe_okS (ok_check T) (hr.mono (by first | decide | omega)) rfl (fun σ => passAt tk σ) (pa_cons pe_str (pa_cons (pv 1) pa_nil))))
      (pss_cons (ps_expr (pe_okS (ok_check T) (hr.mono (by first | decide | omega)) rfl (fun σ => passAt tk σ) (pa_cons pe_str (pa_cons (pe_callB (len_seqK (K := K) rfl) rfl (n_len T) (by decide +kernel) (pa_cons (pv 2) pa_nil)) pa_nil))))
      (pss_cons (ps_for (passes_of rfl) rfl (pi_listK (K := K) rfl (pv 2)) (pg_name (i := 3) sc_Almanac___init__.nd rfl (by first | exact Or.inl rfl | exact Or.inr rfl))
        (pss_one (ps_expr (pe_okS (ok_check_each T) (hr.mono (by first | decide | omega)) rfl (fun σ => passAt tk σ) (pa_cons pe_str (pa_cons (pe_lst (pa_cons (pe_ix (ix_seqK (K := K) rfl) (pv 3) pe_int (fun _ _ => rfl)) (pa_cons (pe_ix (ix_seqK (K := K) rfl) (pv 3) pe_int (fun _ _ => rfl)) pa_nil))) pa_nil))))))
      (pss_cons (ps_if (pt_cmpR op_lt (pv 1) pe_int (nomark _)) (pss_one (ps_raise rfl tk (pmk_x (x_BadSky T) (hr.mono (by first | decide | omega)) rfl (pa_cons pe_int pa_nil)))) pss_nil)
      (pss_cons (ps_for (passes_of rfl) rfl (pi_enum rfl (n_enumerate T) (pa_cons (pv 2) pa_nil)) (pg_tupK (K := K) (n := 2) rfl rfl (pgs_cons (pg_name (i := 4) sc_Almanac___init__.nd rfl (by first | exact Or.inl rfl | exact Or.inr rfl)) (pgs_cons (pg_tupK (K := K) (n := 4) rfl rfl (pgs_cons (pg_name (i := 5) sc_Almanac___init__.nd rfl (by first | exact Or.inl rfl | exact Or.inr rfl)) (pgs_cons (pg_name (i := 6) sc_Almanac___init__.nd rfl (by first | exact Or.inl rfl | exact Or.inr rfl)) (pgs_cons (pg_name (i := 7) sc_Almanac___init__.nd rfl (by first | exact Or.inl rfl | exact Or.inr rfl)) (pgs_cons (pg_name (i := 8) sc_Almanac___init__.nd rfl (by first | exact Or.inl rfl | exact Or.inr rfl)) pgs_nil))))) pgs_nil)))
        (pss_one (ps_if (PW.pt (pw_or (pt_cmpR op_lt (pv 5) pe_int (nomark _)) (pw_or (pt_cmpR op_lt (pv 6) (pv 5) (nomark _)) (pw_or (pt_cmpR op_lt (pv 7) pe_int (nomark _)) (pw_or1 (pt_cmpR op_lt (pv 8) (pv 7) (nomark _))))))) (pss_one (ps_raise rfl tk (pmk_x (x_BadSky T) (hr.mono (by first | decide | omega)) rfl (pa_cons (pe_op op_add (pv 4) pe_int) pa_nil)))) pss_nil)))
      (pss_cons (ps_fld (pv 0) (pv 1) rfl)
      (pss_one (ps_fld (pv 0) (pe_lc (own := [("rain", 3)]) rfl sc_Almanac___init__.nd (pi_listK (K := K) rfl (pv 2)) (blkOk_by (N := ["self", "days", "rains", "rain", "at", "first", "last", "least", "most"]) (sc := defScope s_Almanac___init__) (by decide +kernel)) (fun _ _ _ _ _ => (pg_name (i := 3) sc_Almanac___init__.nd rfl (by first | exact Or.inl rfl | exact Or.inr rfl))) (fun _ _ _ _ _ => pts_nil) (fun _ _ _ _ _ => (pe_tup (pa_cons (pe_ix (ix_seqK (K := K) rfl) (pv 3) pe_int (fun _ _ => rfl)) (pa_cons (pe_ix (ix_seqK (K := K) rfl) (pv 3) pe_int (fun _ _ => rfl)) (pa_cons (pe_ix (ix_seqK (K := K) rfl) (pv 3) pe_int (fun _ _ => rfl)) (pa_cons (pe_ix (ix_seqK (K := K) rfl) (pv 3) pe_int (fun _ _ => rfl)) pa_nil))))))) rfl)))))))), ?_⟩
    refine ⟨_, rfl, "days", d, 24, rfl, lim_days, fun c1 => ?_, fun c1 => absurd d2 (by omega)⟩
    refine ⟨_, rfl, _, _, rfl, .inl (SqL.of hS), "rains", _, 40, rfl, lim_rains, fun c2 => ?_, fun c2 => absurd hyl (by omega)⟩
    refine ⟨_, rfl, sd, rfl, ⟨_, SqL.of hS⟩, for_list (K := K) (a := sd) (xs := ys) (fun i σ H' => ∃ v3, σ = [some (.ref p), some (.int d), some (.ref sd), v3, none, none, none, none, none] ∧ Same H H') ⟨_, rfl, Same.refl H⟩ (fun _ _ _ _ ⟨_, _, e⟩ => SqL.of (e _ _ hS)) ?_ ?_⟩
    · rintro i x σ H' hx ⟨v3, rfl, e⟩
      obtain ⟨r, hr', hq⟩ := paired_get hP hx
      have hgr := hg r (List.mem_of_getElem? hr')
      have hq := hq.same e
      refine ⟨_, rfl, hq.ix (i := 2) rfl ⟨_, rfl, hq.ix (i := 3) rfl ⟨(by show 2 ≤ sizeLine; decide), fun m hm => ?_⟩⟩⟩
      obtain ⟨s1, g1⟩ := new2 (.lst [V.int r.2.2.1, V.int r.2.2.2]) hm
      refine ⟨"cans", m, [r.2.2.1, r.2.2.2], 10 ^ 12, rfl, g1, lim_cans, fun n hn => ?_, ?_⟩
      · unfold GoodR at hgr
        simp only [List.mem_cons, List.not_mem_nil, or_false] at hn
        rcases hn with rfl | rfl <;> omega
      · exact ⟨_, rfl, e.trans s1⟩
    · rintro σ H1 ⟨v3, rfl, e1⟩
      refine ⟨_, rfl, _, _, rfl, rfl, _, rfl, ?_⟩
      rw [show decide (d < 1) = false from decide_eq_false (by omega)]
      refine iteF ⟨_, rfl, sd, ys, rfl, SqL.of (e1 _ _ hS), for_enum0 (K := K) (a := sd) (xs := ys) (fun i σ H' => ∃ v3 v4 v5 v6 v7 v8, σ = [some (.ref p), some (.int d), some (.ref sd), v3, v4, v5, v6, v7, v8] ∧ Same H H') ⟨_, _, _, _, _, _, rfl, e1⟩ (fun _ _ _ _ ⟨_, _, _, _, _, _, _, e⟩ => SqL.of (e _ _ hS)) ?_ ?_⟩
      · rintro i x σ H' TT hx ⟨v3, v4, v5, v6, v7, v8, rfl, e⟩ hTT
        obtain ⟨r, hr', hq⟩ := paired_get hP hx
        have hgr := hg r (List.mem_of_getElem? hr')
        unfold GoodR at hgr
        obtain ⟨s1, g1⟩ := new2 (.tup [.int (i : Nat), x]) hTT
        have e2 := e.trans s1
        have hq := hq.same e2
        refine ⟨TT, _, rfl, SqT.of g1, rfl, _, _, rfl, _, _, rfl, hq.un rfl ⟨rfl, ?_⟩⟩
        refine ⟨_, rfl, _, _, rfl, rfl, _, rfl, ?_⟩
        rw [decide_eq_false (by omega)]
        refine ⟨_, rfl, _, rfl, _, _, rfl, rfl, _, rfl, ?_⟩
        rw [decide_eq_false (by omega)]
        refine ⟨_, rfl, _, _, rfl, rfl, _, rfl, ?_⟩
        rw [decide_eq_false (by omega)]
        refine ⟨_, rfl, _, rfl, _, _, rfl, rfl, _, rfl, ?_⟩
        rw [decide_eq_false (by omega)]
        exact ⟨_, _, _, _, _, _, rfl, e2⟩
      · rintro σ H2 ⟨v3, v4, v5, v6, v7, v8, rfl, e2⟩
        have hp2 := e2 _ _ hp
        have hS2 := e2 _ _ hS
        have nps : sd ≠ p := fun z => by rw [z, hp2] at hS2; cases hS2
        refine ⟨_, rfl, _, rfl, p, _, dx, [], rfl, hp2, cl_Almanac T, na_Almanac_days_number T, (by show 0 < 1000; decide), ?_⟩
        have b1 : But p H2 (upd H2 p (.ins (cA K) dx (putF "days_number" (.int d) []))) := (But.refl p H2).upd
        have p1 : upd H2 p (.ins (cA K) dx (putF "days_number" (.int d) [])) p = some (.ins (cA K) dx (putF "days_number" (.int d) [])) := upd_same
        generalize upd H2 p (.ins (cA K) dx (putF "days_number" (.int d) [])) = H3 at b1 p1 ⊢
        have hS3 := b1 _ _ hS2 nps
        have hP3 : Paired (QuadT H3) ys rs := Paired.mapP hP fun _ _ z => by
          obtain ⟨t, rfl, h⟩ := z.same e2
          exact ⟨t, rfl, b1 _ _ h fun z => by rw [z, hp2] at h; cases h⟩
        refine ⟨_, rfl, sd, rfl, ⟨_, SqL.of hS3⟩, fun D hD => lc_acc (K := K) (a := sd) (xs := ys) hD (SqL.of hS3) (by omega) (fun j acc H4 => Paired (QuadT H4) acc (rs.take j)) (fun _ _ => .nil) ?_ ?_⟩
        · rintro j x acc H4 N N0 hx s2 hacc hI hN hN0
          obtain ⟨r, hc, hr⟩ := paired_get hP3 hx
          have hr := hr.same s2
          refine ⟨rfl, ?_⟩
          refine ⟨_, rfl, hr.ix (i := 0) rfl ⟨_, rfl, hr.ix (i := 1) rfl ⟨_, rfl, hr.ix (i := 2) rfl ⟨_, rfl, hr.ix (i := 3) rfl ⟨(by show 4 ≤ sizeLine; decide), fun t ht => ?_⟩⟩⟩⟩⟩
          obtain ⟨s3, g3⟩ := new2 (.tup (q4V r)) ht
          have tD : t ≠ D := fun z => by rw [z, hacc] at ht; cases ht
          refine hN _ _ s3 fun H5 b5 _ => ?_
          rw [take_get hc]
          refine paired_snoc (Paired.mapP hI fun _ _ z => ?_) ⟨t, rfl, b5 _ _ g3 tD⟩
          obtain ⟨u, rfl, h⟩ := z.same s3
          exact ⟨u, rfl, b5 _ _ h fun z => by rw [z, s3 _ _ hacc] at h; cases h⟩
        · rintro acc H4 s2 hacc hal hI
          rw [Paired.length hP3, List.take_length] at hI
          have p2 := s2 _ _ p1
          refine ⟨_, rfl, p, _, dx, _, rfl, p2, cl_Almanac T, na_Almanac_rains_list T, (by show 1 < 1000; decide), ?_⟩
          have pD : D ≠ p := fun z => by rw [z, p1] at hD; cases hD
          have b2 : But p H (upd H4 p (.ins (cA K) dx (putF "rains_list" (.ref D) (putF "days_number" (.int d) [])))) := ((But.of e2).trans (b1.trans (But.of s2))).upd
          refine k _ b2 ⟨dx, D, acc, ?_, by rw [upd_ne pD]; exact hacc, Paired.mapP hI fun _ _ z => ?_⟩
          · rw [upd_same]
            have e : ¬ (("days_number" : Str) = "rains_list") := by decide +kernel
            show some (HO.ins (cA K) dx (if ("days_number" : Str) = "rains_list" then _ else _)) = _
            rw [if_neg e]
            rfl
          · obtain ⟨u, rfl, h⟩ := z
            exact ⟨u, rfl, by rw [upd_ne fun z => by rw [z, p2] at h; cases h]; exact h⟩
/-- the making of an almanac that is allowed -/
theorem amade {E : XK} {Q : Addr → Hp → Prop} {H : Hp} {s : Addr} {ys : List V} {rs : List Q4} {d : Int} (hS : H s = some (.lst ys)) (hP : Paired (QuadT H) ys rs) (d1 : 1 ≤ d) (d2 : d ≤ 24) (hl : rs.length ≤ 40) (hg : ∀ r ∈ rs, GoodR r)
    (k : ∀ x H', H x = none → Same H H' → AlmAt K H' x d rs → Q x H') :
    ∀ x dx, H x = none → H dx = none → dx ≠ x → spAInit K (.ref x :: ([.int d, .ref s] ++ [])) (upd (upd H dx (.own x)) x (.ins (cA K) dx [])) (fun v H2 => v = .non ∧ Q x H2) E := by
  intro x dx hx hdx hne
  have s1 : Same H (upd (upd H dx (.own x)) x (.ins (cA K) dx [])) := same_mut (same_new hdx) hx
  exact ⟨x, dx, d, s, ys, rs, rfl, upd_same, s1 _ _ hS, Paired.mapP hP fun _ _ z => z.same s1, d1, d2, hl, hg, fun H' b h => ⟨rfl, k x H' hx (fun c o hc => b c o (s1 c o hc) (ne_of_none hc hx)) h⟩⟩
def spADays (K : PySem.W.Frag) : Sp := fun vs H Q _ => ∃ p d rs, vs = [.ref p] ∧ AlmAt K H p d rs ∧ Q (.int d) H
theorem okm_Almanac_days (T : Txt w K mg) : OkM P w K mg base CX0 1 (cA K) "days" ["self"] (spADays K) := by
  refine OkM.def0 (fm_Almanac_days T) (me_Almanac_days T) (fun _ _ _ _ _ _ us hl => match us, hl with | [_], _ => rfl) sc_Almanac_days (fun vs H Q E h => ?_) (fun cdv A outer s H vs Q E hr h => ?_)
  · obtain ⟨p, d, rs, rfl, _⟩ := h
    rfl
  · obtain ⟨p, d, rs, rfl, ⟨dx, l, xs, h1, h2, h3⟩, k⟩ := h
    refine ⟨_, (pss_one (ps_ret (pe_fld (pv 0) rfl))), ?_⟩
    exact ⟨_, rfl, p, _, dx, _, _, rfl, h1, cl_Almanac T, na_Almanac_days_number T, af_days d l, k⟩
def spARains (K : PySem.W.Frag) : Sp := fun vs H Q _ => ∃ p d rs, vs = [.ref p] ∧ AlmAt K H p d rs ∧ ∀ l xs H', H l = none → Same H H' → H' l = some (.lst xs) → Paired (QuadT H') xs rs → Q (.ref l) H'
theorem okm_Almanac_rains (T : Txt w K mg) : OkM P w K mg base CX0 1 (cA K) "rains" ["self"] (spARains K) := by
  refine OkM.def0 (fm_Almanac_rains T) (me_Almanac_rains T) (fun _ _ _ _ _ _ us hl => match us, hl with | [_], _ => rfl) sc_Almanac_rains (fun vs H Q E h => ?_) (fun cdv A outer s H vs Q E hr h => ?_)
  · obtain ⟨p, d, rs, rfl, _⟩ := h
    rfl
  · obtain ⟨p, d, rs, rfl, ⟨dx, l, xs, h1, h2, h3⟩, k⟩ := h
    refine ⟨_, (pss_one (ps_ret (pe_callTy (list_ofK (K := K) rfl) rfl (n_list T) (by decide +kernel) (pa_cons (pe_fld (pv 0) rfl) pa_nil)))), ?_⟩
    refine ⟨_, rfl, p, _, dx, _, _, rfl, h1, cl_Almanac T, na_Almanac_rains_list T, af_rains d l, l, xs, rfl, .inl (SqL.of h2), fun m hm => ?_⟩
    obtain ⟨s1, g1⟩ := new2 (.lst xs) hm
    exact k m xs _ hm s1 g1 (Paired.mapP h3 fun _ _ z => z.same s1)
end
end K26
end
section
set_option maxRecDepth 100000
set_option maxHeartbeats 4000000
namespace K26
open PySem PySem.Spec PyProof.Rows L2
/-! ### what is right with a weather, day by day -/
def okR (r : Q4) (day cans : Int) : Bool := decide (r.1 ≤ day) && (decide (day ≤ r.2.1) && (decide (r.2.2.1 ≤ cans) && decide (cans ≤ r.2.2.2)))
def okF (rs : List Q4) (day b : Int) (g : List Int) (c : Int × Int) : Bool := decide (b < c.1) && (decide (c.1 ≤ (rs.length : Int)) && (!decide (c.1 ∈ g) && okR (rs.getD (c.1 - 1).toNat (0, 0, 0, 0)) day c.2))
def falls (rs : List Q4) (day : Int) : Int → List Int → List (Int × Int) → Option (List Int)
  | _, g, [] => some g
  | b, g, c :: r => if okF rs day b g c = true then falls rs day c.1 (g ++ [c.1]) r else none
/-- a rain that must be gone and is not -/
def late (rs : List Q4) (day : Int) (g : List Int) (at_ : Nat) : Bool := decide ((rs.getD at_ (0, 0, 0, 0)).2.1 ≤ day) && !decide (((at_ : Int) + 1) ∈ g)
def dueBad (rs : List Q4) (day : Int) (g : List Int) : Bool := (List.range rs.length).any (late rs day g)
def dayStep (rs : List Q4) (day : Int) (g : List Int) (rep : List (Int × Int)) : Option (List Int) :=
  match falls rs day 0 g rep with
  | none => none
  | some g' => if dueBad rs day g' = true then none else some g'
def firstBad (rs : List Q4) : Int → List Int → List (List (Int × Int)) → Int
  | _, _, [] => 0
  | k, g, rep :: W => match dayStep rs k g rep with
    | none => k
    | some g' => firstBad rs (k + 1) g' W
def ascends : Int → List (Int × Int) → Bool
  | _, [] => true
  | b, c :: r => decide (b < c.1) && (decide (0 ≤ c.2) && ascends c.1 r)
theorem okR_nn {r : Q4} {day cans : Int} (h0 : 0 ≤ r.2.2.1) (h : okR r day cans = true) : 0 ≤ cans := by
  unfold okR at h
  simp only [Bool.and_eq_true, decide_eq_true_eq] at h
  omega
theorem falls_asc {rs : List Q4} (hg : ∀ r ∈ rs, GoodR r) {day : Int} : ∀ {b : Int} {g : List Int} {rep : List (Int × Int)}, 0 ≤ b → ascends b rep = false → falls rs day b g rep = none
  | b, g, [], _, h => by cases h
  | b, g, c :: r, hb, h => by
    unfold falls
    split
    · rename_i ho
      unfold okF at ho
      simp only [Bool.and_eq_true, decide_eq_true_eq] at ho
      obtain ⟨h1, h2, h3, h4⟩ := ho
      have hn : 0 ≤ c.2 := by
        have lt : (c.1 - 1).toNat < rs.length := by omega
        have e : rs.getD (c.1 - 1).toNat (0, 0, 0, 0) = rs[(c.1 - 1).toNat] := by rw [List.getD_eq_getElem?_getD, List.getElem?_eq_getElem lt]; rfl
        rw [e] at h4
        have := hg _ (List.getElem_mem lt)
        unfold GoodR at this
        exact okR_nn this.2.2.1 h4
      refine falls_asc hg (by omega) ?_
      unfold ascends at h
      rw [decide_eq_true h1, decide_eq_true hn] at h
      simpa using h
    · rfl
section
variable {P : Program} {w : World} {K : PySem.W.Frag} {mg : Str → Option Value} {base : Heap}
end
end K26
end
section
set_option maxRecDepth 100000
set_option maxHeartbeats 4000000
namespace K26
open PySem PySem.Spec PyProof.Rows L2
section
variable {P : Program} {w : World} {K : PySem.W.Frag} {mg : Str → Option Value} {base : Heap}
def spAsc : Sp := fun vs H Q _ => ∃ l xs ws, vs = [.ref l] ∧ H l = some (.lst xs) ∧ Paired (PairT H) xs ws ∧ Q (.bl (ascends 0 ws)) H
theorem ok_report_ascends (T : Txt w K mg) : Ok P w K mg base CX0 1 "report_ascends" ["report"] spAsc := by
  refine Ok.def0 (f_report_ascends T) (fun _ _ _ _ _ _ us hl => match us, hl with | [_], _ => rfl) sc_report_ascends (fun vs H Q E h => ?_) (fun f cdv A outer s H vs Q E hr h => ?_)
  · obtain ⟨l, xs, ws, rfl, _⟩ := h
    rfl
  · obtain ⟨l, xs, ws, rfl, h2, h3, k⟩ := h
    refine ⟨_, (pss_cons (ps_set (i := 1) sc_report_ascends.nd rfl (by first | exact Or.inl rfl | exact Or.inr rfl) pe_int)
      (pss_cons (ps_for PassesOwn.never rfl (pi_listK (K := K) rfl (pv 0)) (pg_tupK (K := K) (n := 2) rfl rfl (pgs_cons (pg_name (i := 2) sc_report_ascends.nd rfl (by first | exact Or.inl rfl | exact Or.inr rfl)) (pgs_cons (pg_name (i := 3) sc_report_ascends.nd rfl (by first | exact Or.inl rfl | exact Or.inr rfl)) pgs_nil)))
        (pss_cons (ps_if (PW.pt (pw_or (pt_cmpR op_le (pv 2) (pv 1) (nomark _)) (pw_or1 (pt_cmpR op_lt (pv 3) pe_int (nomark _))))) (pss_one (ps_ret pe_bl)) pss_nil)
      (pss_one (ps_set (i := 1) sc_report_ascends.nd rfl (by first | exact Or.inl rfl | exact Or.inr rfl) (pv 2)))))
      (pss_one (ps_ret pe_bl)))), ?_⟩
    refine ⟨_, rfl, l, rfl, ⟨_, SqL.of h2⟩, for_list (K := K) (a := l) (xs := xs) (fun i σ H' => ∃ v2 v3 b, σ = [some (.ref l), some (.int b), v2, v3] ∧ H' = H ∧ ascends 0 ws = ascends b (ws.drop i)) ⟨_, _, 0, rfl, rfl, rfl⟩ (fun _ _ _ _ ⟨_, _, _, _, e, _⟩ => by rw [e]; exact SqL.of h2) ?_ ?_⟩
    · rintro i x σ H' hx ⟨v2, v3, b, rfl, rfl, ha⟩
      obtain ⟨c, hc, hr⟩ := paired_get h3 hx
      rw [drop_get hc] at ha
      have step : ascends b (c :: ws.drop (i + 1)) = (decide (b < c.1) && (decide (0 ≤ c.2) && ascends c.1 (ws.drop (i + 1)))) := rfl
      refine PairT.un hr rfl ?_
      refine ⟨_, rfl, _, rfl, _, _, rfl, rfl, _, rfl, ?_⟩
      have no : (decide (b < c.1) && (decide (0 ≤ c.2) && ascends c.1 (ws.drop (i + 1)))) = false → ascends 0 ws = false := fun q => by rw [ha, step, q]
      cases q1 : decide (c.1 ≤ b) with
      | true =>
        have : decide (b < c.1) = false := decide_eq_false (by have := of_decide_eq_true q1; omega)
        rw [no (by rw [this]; rfl)] at k
        exact k
      | false =>
        have q1' : decide (b < c.1) = true := decide_eq_true (by have := of_decide_eq_false q1; omega)
        refine ⟨_, rfl, _, _, rfl, rfl, _, rfl, ?_⟩
        cases q2 : decide (c.2 < 0) with
        | true =>
          have : decide (0 ≤ c.2) = false := decide_eq_false (by have := of_decide_eq_true q2; omega)
          rw [no (by rw [q1', this]; rfl)] at k
          exact k
        | false =>
          have q2' : decide (0 ≤ c.2) = true := decide_eq_true (by have := of_decide_eq_false q2; omega)
          rw [q1', q2'] at step
          exact ⟨_, rfl, _, _, c.1, rfl, rfl, by rw [ha, step]; rfl⟩
    · rintro σ H' ⟨v2, v3, b, rfl, rfl, ha⟩
      rw [Paired.length h3, List.drop_length] at ha
      rw [ha] at k
      exact k
/-- a weather: the reports of each day -/
def RepT (H : Hp) (x : V) (rep : List (Int × Int)) : Prop := ∃ l xs, x = .ref l ∧ H l = some (.lst xs) ∧ Paired (PairT H) xs rep
theorem RepT.same {H H' : Hp} (e : Same H H') {x : V} {rep : List (Int × Int)} (h : RepT H x rep) : RepT H' x rep := by
  obtain ⟨l, xs, rfl, h1, h2⟩ := h
  exact ⟨l, xs, rfl, e _ _ h1, Paired.mapP h2 fun _ _ z => z.same e⟩
def WeaT (H : Hp) (p : Addr) (W : List (List (Int × Int))) : Prop := ∃ xs, H p = some (.lst xs) ∧ Paired (RepT H) xs W
theorem WeaT.same {H H' : Hp} (e : Same H H') {p : Addr} {W : List (List (Int × Int))} (h : WeaT H p W) : WeaT H' p W := by
  obtain ⟨xs, h1, h2⟩ := h
  exact ⟨xs, e _ _ h1, Paired.mapP h2 fun _ _ z => z.same e⟩
def total (W : List (List (Int × Int))) : Nat := (W.map List.length).sum
theorem total_app (a b : List (List (Int × Int))) : total (a ++ b) = total a + total b := by
  unfold total
  rw [List.map_append, List.sum_append]
theorem total_le (W : List (List (Int × Int))) (i : Nat) : total (W.take i) ≤ total W := by
  have := total_app (W.take i) (W.drop i)
  rw [List.take_append_drop] at this
  omega
theorem total_step {W : List (List (Int × Int))} {i : Nat} {rep : List (Int × Int)} (h : W[i]? = some rep) : total (W.take (i + 1)) = total (W.take i) + rep.length := by
  rw [take_get h, total_app]
  unfold total
  simp
def spBegins (K : PySem.W.Frag) : Sp := fun vs H Q _ => ∃ p T rs a W, vs = [.ref p, .ref a] ∧ AlmAt K H p T rs ∧ rs.length ≤ 40 ∧ (∀ r ∈ rs, GoodR r) ∧ WeaT H a W ∧ (W.length : Int) ≤ T ∧ total W ≤ 2000 ∧ ∀ H', Same H H' → Q (.int (firstBad rs 1 [] W)) H'
theorem okm_Almanac_begins (T : Txt w K mg) : OkM P w K mg base CX0 2 (cA K) "begins" ["self", "beginning"] (spBegins K) := by
  refine OkM.def0 (fm_Almanac_begins T) (me_Almanac_begins T) (fun _ _ _ _ _ _ us hl => match us, hl with | [_, _], _ => rfl) sc_Almanac_begins (fun vs H Q E h => ?_) (fun cdv A outer s H vs Q E hr h => ?_)
  · obtain ⟨p, TT, rs, a, W, rfl, _⟩ := h
    rfl
  · obtain ⟨p, TT, rs, a, W, rfl, ⟨dx, l, xs, h1, h2, h3⟩, hl, hg, ⟨ys, w1, w2⟩, hT, htot, k⟩ := h
    have hxl : xs.length = rs.length := Paired.length h3
    refine ⟨_, (pss_cons (ps_set (i := 2) sc_Almanac_begins.nd rfl (by first | exact Or.inl rfl | exact Or.inr rfl) (pe_callTy0 cr_set0 rfl (n_set T) (by decide +kernel)))
      (pss_cons (ps_for PassesOwn.never rfl (pi_enum rfl (n_enumerate T) (pa_cons (pv 1) pa_nil)) (pg_tupK (K := K) (n := 2) rfl rfl (pgs_cons (pg_name (i := 3) sc_Almanac_begins.nd rfl (by first | exact Or.inl rfl | exact Or.inr rfl)) (pgs_cons (pg_name (i := 4) sc_Almanac_begins.nd rfl (by first | exact Or.inl rfl | exact Or.inr rfl)) pgs_nil)))
        (pss_cons (ps_set (i := 5) sc_Almanac_begins.nd rfl (by first | exact Or.inl rfl | exact Or.inr rfl) (pe_op op_add (pv 3) pe_int))
      (pss_cons (ps_if (PW.pt (pw_or (pt_cmpR op_gt (pv 5) (pe_fld (pv 0) rfl) (nomark _)) (pw_or1 (pt_not (pt_val (pe_ok (ok_report_ascends T) (hr.mono (by first | decide | omega)) rfl pass0 (pa_cons (pv 4) pa_nil))))))) (pss_one (ps_ret (pv 5))) pss_nil)
      (pss_cons (ps_for PassesOwn.never rfl (pi_listK (K := K) rfl (pv 4)) (pg_tupK (K := K) (n := 2) rfl rfl (pgs_cons (pg_name (i := 6) sc_Almanac_begins.nd rfl (by first | exact Or.inl rfl | exact Or.inr rfl)) (pgs_cons (pg_name (i := 7) sc_Almanac_begins.nd rfl (by first | exact Or.inl rfl | exact Or.inr rfl)) pgs_nil)))
        (pss_cons (ps_if (PW.pt (pw_or (pt_cmpR op_gt (pv 6) (pe_callB (len_seqK (K := K) rfl) rfl (n_len T) (by decide +kernel) (pa_cons (pe_fld (pv 0) rfl) pa_nil)) (nomark _)) (pw_or1 (pt_cmpR or_sin (pv 6) (pv 2) (by with_unfolding_all rfl))))) (pss_one (ps_ret (pv 5))) pss_nil)
      (pss_cons (ps_asg (pe_ix (ix_seqK (K := K) rfl) (pe_fld (pv 0) rfl) (pe_op op_sub (pv 6) pe_int) (fun _ _ => rfl)) (pg_tupK (K := K) (n := 4) rfl rfl (pgs_cons (pg_name (i := 8) sc_Almanac_begins.nd rfl (by first | exact Or.inl rfl | exact Or.inr rfl)) (pgs_cons (pg_name (i := 9) sc_Almanac_begins.nd rfl (by first | exact Or.inl rfl | exact Or.inr rfl)) (pgs_cons (pg_name (i := 10) sc_Almanac_begins.nd rfl (by first | exact Or.inl rfl | exact Or.inr rfl)) (pgs_cons (pg_name (i := 11) sc_Almanac_begins.nd rfl (by first | exact Or.inl rfl | exact Or.inr rfl)) pgs_nil))))))
      (pss_cons (ps_if (PW.pt (pw_or (pt_cmpR op_lt (pv 5) (pv 8) (nomark _)) (pw_or (pt_cmpR op_gt (pv 5) (pv 9) (nomark _)) (pw_or (pt_cmpR op_lt (pv 7) (pv 10) (nomark _)) (pw_or1 (pt_cmpR op_gt (pv 7) (pv 11) (nomark _))))))) (pss_one (ps_ret (pv 5))) pss_nil)
      (pss_one (ps_expr (pe_sadd (pv 2) (pa_cons (pv 6) pa_nil))))))))
      (pss_one (ps_for PassesOwn.never rfl (pi_enum rfl (n_enumerate T) (pa_cons (pe_fld (pv 0) rfl) pa_nil)) (pg_tupK (K := K) (n := 2) rfl rfl (pgs_cons (pg_name (i := 12) sc_Almanac_begins.nd rfl (by first | exact Or.inl rfl | exact Or.inr rfl)) (pgs_cons (pg_name (i := 13) sc_Almanac_begins.nd rfl (by first | exact Or.inl rfl | exact Or.inr rfl)) pgs_nil)))
        (pss_one (ps_if (PW.pt (pw_and (pt_cmpR op_le (pe_ix (ix_seqK (K := K) rfl) (pv 13) pe_int (fun _ _ => rfl)) (pv 5) (nomark _)) (pw_and1 (pt_cmpR or_snotin (pe_op op_add (pv 12) pe_int) (pv 2) (by with_unfolding_all rfl))))) (pss_one (ps_ret (pv 5))) pss_nil))))))))
      (pss_one (ps_ret pe_int)))), ?_⟩
    refine ⟨rfl, fun sp hsp => ?_⟩
    have s1 : Same H (upd H sp (SetO w sp (fun _ => false) 0)) := same_new hsp
    refine ⟨_, rfl, a, ys, rfl, SqL.of (s1 _ _ w1), for_enum0 (K := K) (a := a) (xs := ys) (fun i σ H' => ∃ v3 v4 v5 v6 v7 v8 v9 v10 v11 v12 v13 S gone, σ = [some (.ref p), some (.ref a), some (.ref sp), v3, v4, v5, v6, v7, v8, v9, v10, v11, v12, v13] ∧ Same H H' ∧ H' sp = some (SetO w sp S gone.length) ∧ (∀ z, S z = decide (z ∈ gone)) ∧ gone.length ≤ total (W.take i) ∧ firstBad rs 1 [] W = firstBad rs ((i : Int) + 1) gone (W.drop i)) ⟨_, _, _, _, _, _, _, _, _, _, _, _, [], rfl, s1, upd_same, fun z => by simp, Nat.zero_le _, rfl⟩ (fun _ _ _ _ h => ?_) ?_ ?_⟩
    · obtain ⟨_, _, _, _, _, _, _, _, _, _, _, _, _, _, e, _⟩ := h
      exact SqL.of (e _ _ w1)
    · rintro i x σ H1 TP hx ⟨v3, v4, v5, v6, v7, v8, v9, v10, v11, v12, v13, S, gone, rfl, e1, hS, hSg, hgl, hfb⟩ hTP
      obtain ⟨rep, hrep, l2, zs, rfl, r1, r2⟩ := paired_get w2 hx
      obtain ⟨s2, g2⟩ := new2 (.tup [.int (i : Nat), .ref l2]) hTP
      have e2 := e1.trans s2
      have hS2 := s2 _ _ hS
      have hiW : i < W.length := (List.getElem?_eq_some_iff.mp hrep).1
      rw [drop_get hrep] at hfb
      have hst : firstBad rs ((i : Int) + 1) gone (rep :: W.drop (i + 1)) = match dayStep rs ((i : Int) + 1) gone rep with
        | none => ((i : Int) + 1)
        | some g' => firstBad rs ((i : Int) + 1 + 1) g' (W.drop (i + 1)) := rfl
      have ret : ∀ H', Same H H' → dayStep rs ((i : Int) + 1) gone rep = none → Q (.int ((i : Int) + 1)) H' := fun H' e hd => by
        rw [hd] at hst
        have := hfb.trans hst
        rw [this] at k
        exact k H' e
      refine ⟨TP, _, rfl, SqT.of g2, rfl, _, _, rfl, _, _, rfl, rfl, ?_⟩
      refine ⟨_, rfl, _, _, rfl, rfl, ?_⟩
      refine ⟨_, rfl, _, rfl, p, _, dx, _, _, rfl, e2 _ _ h1, cl_Almanac T, na_Almanac_days_number T, af_days TT l, _, _, rfl, rfl, _, rfl, ?_⟩
      rw [decide_eq_false (by omega)]
      refine ⟨_, rfl, l2, zs, rep, rfl, e2 _ _ r1, Paired.mapP r2 fun _ _ z => z.same e2, ?_⟩
      cases hasc : ascends 0 rep with
      | false =>
        refine ⟨_, rfl, _, rfl, ret _ e2 ?_⟩
        unfold dayStep
        rw [falls_asc hg (Int.le_refl 0) hasc]
      | true =>
        have hbnd : gone.length + rep.length ≤ total (W.take (i + 1)) := by
          rw [total_step hrep]
          omega
        have htk : total (W.take (i + 1)) ≤ 2000 := Nat.le_trans (total_le W (i + 1)) htot
        refine ⟨_, rfl, _, rfl, l2, rfl, ⟨_, SqL.of (e2 _ _ r1)⟩, for_list (K := K) (a := l2) (xs := zs) (fun j σ H' => ∃ v6 v7 v8 v9 v10 v11 v12 v13 S g b, σ = [some (.ref p), some (.ref a), some (.ref sp), some (.int (i : Nat)), some (.ref l2), some (.int ((i : Int) + 1)), v6, v7, v8, v9, v10, v11, v12, v13] ∧ Same H H' ∧ H' sp = some (SetO w sp S g.length) ∧ (∀ z, S z = decide (z ∈ g)) ∧ g.length ≤ gone.length + j ∧ falls rs ((i : Int) + 1) 0 gone rep = falls rs ((i : Int) + 1) b g (rep.drop j) ∧ ascends b (rep.drop j) = true ∧ 0 ≤ b) ⟨_, _, _, _, _, _, _, _, _, gone, 0, rfl, e2, hS2, hSg, Nat.le_refl _, rfl, hasc, Int.le_refl 0⟩ (fun _ _ _ _ h => ?_) ?_ ?_⟩
        · obtain ⟨_, _, _, _, _, _, _, _, _, _, _, _, e, _⟩ := h
          exact SqL.of (e _ _ r1)
        · rintro j x σ H3 hx3 ⟨v6, v7, v8, v9, v10, v11, v12, v13, S3, g3, b, rfl, e3, hS3, hSg3, hgl3, hfl, has3, hb0⟩
          obtain ⟨c, hc, hr⟩ := paired_get r2 hx3
          have hr := hr.same e3
          have hj : j < rep.length := (List.getElem?_eq_some_iff.mp hc).1
          rw [drop_get hc] at hfl has3
          have hst3 : falls rs ((i : Int) + 1) b g3 (c :: rep.drop (j + 1)) = if okF rs ((i : Int) + 1) b g3 c = true then falls rs ((i : Int) + 1) c.1 (g3 ++ [c.1]) (rep.drop (j + 1)) else none := rfl
          unfold ascends at has3
          simp only [Bool.and_eq_true, decide_eq_true_eq] at has3
          obtain ⟨a1, a2, a3⟩ := has3
          have bad : okF rs ((i : Int) + 1) b g3 c = false → Q (.int ((i : Int) + 1)) H3 := fun q => ret _ e3 (by
            unfold dayStep
            rw [hfl, hst3, q]
            rfl)
          refine PairT.un hr rfl ?_
          refine ⟨_, rfl, _, rfl, p, _, dx, _, _, rfl, e3 _ _ h1, cl_Almanac T, na_Almanac_rains_list T, af_rains TT l, l, xs, rfl, .inl (SqL.of (e3 _ _ h2)), _, _, rfl, rfl, _, rfl, ?_⟩
          rw [hxl]
          cases q1 : decide ((rs.length : Int) < c.1) with
          | true =>
            refine ⟨_, rfl, bad ?_⟩
            unfold okF
            rw [decide_eq_false (p := c.1 ≤ (rs.length : Int)) (by have := of_decide_eq_true q1; omega)]
            simp
          | false =>
            have q1 := of_decide_eq_false q1
            refine ⟨_, rfl, _, rfl, c.1, sp, S3, _, rfl, rfl, hS3, _, rfl, ?_⟩
            rw [hSg3]
            cases q2 : decide (c.1 ∈ g3) with
            | true =>
              refine ⟨_, rfl, bad ?_⟩
              unfold okF
              rw [q2]
              simp
            | false =>
              obtain ⟨n, hn⟩ : ∃ n : Nat, c.1 = (n : Int) + 1 := ⟨(c.1 - 1).toNat, by omega⟩
              have hnl : n < rs.length := by omega
              obtain ⟨r, hr4⟩ : ∃ r, rs[n]? = some r := ⟨rs[n], List.getElem?_eq_getElem hnl⟩
              obtain ⟨y, hy⟩ : ∃ y, xs[n]? = some y := ⟨xs[n]'(by omega), List.getElem?_eq_getElem _⟩
              obtain ⟨r', hr', hq⟩ := paired_get h3 hy
              rw [hr4] at hr'
              cases hr'
              have hq := hq.same e3
              have egr : rs.getD (c.1 - 1).toNat (0, 0, 0, 0) = r := by
                have : (c.1 - 1).toNat = n := by omega
                rw [this, List.getD_eq_getElem?_getD, hr4]
                rfl
              have okr : okF rs ((i : Int) + 1) b g3 c = okR r ((i : Int) + 1) c.2 := by
                unfold okF
                rw [egr, decide_eq_true a1, decide_eq_true (by omega), q2]
                rfl
              refine ⟨_, rfl, p, _, dx, _, _, rfl, e3 _ _ h1, cl_Almanac T, na_Almanac_rains_list T, af_rains TT l, _, rfl, _, _, rfl, rfl, .inl ⟨l, xs, _, y, rfl, rfl, SqL.of (e3 _ _ h2), at_of (by omega) hy, hq.un rfl ?_⟩⟩
              refine ⟨_, rfl, _, rfl, _, _, rfl, rfl, _, rfl, ?_⟩
              have badR : okR r ((i : Int) + 1) c.2 = false → Q (.int ((i : Int) + 1)) H3 := fun q => bad (okr.trans q)
              cases t1 : decide ((i : Int) + 1 < r.1) with
              | true =>
                refine ⟨_, rfl, badR ?_⟩
                unfold okR
                rw [decide_eq_false (p := r.1 ≤ (i : Int) + 1) (by have := of_decide_eq_true t1; omega)]
                rfl
              | false =>
                have t1 := of_decide_eq_false t1
                refine ⟨_, rfl, _, rfl, _, _, rfl, rfl, _, rfl, ?_⟩
                cases t2 : decide (r.2.1 < (i : Int) + 1) with
                | true =>
                  refine ⟨_, rfl, badR ?_⟩
                  unfold okR
                  rw [decide_eq_false (p := (i : Int) + 1 ≤ r.2.1) (by have := of_decide_eq_true t2; omega)]
                  simp
                | false =>
                  have t2 := of_decide_eq_false t2
                  refine ⟨_, rfl, _, rfl, _, _, rfl, rfl, _, rfl, ?_⟩
                  cases t3 : decide (c.2 < r.2.2.1) with
                  | true =>
                    refine ⟨_, rfl, badR ?_⟩
                    unfold okR
                    rw [decide_eq_false (p := r.2.2.1 ≤ c.2) (by have := of_decide_eq_true t3; omega)]
                    simp
                  | false =>
                    have t3 := of_decide_eq_false t3
                    refine ⟨_, rfl, _, rfl, _, _, rfl, rfl, _, rfl, ?_⟩
                    cases t4 : decide (r.2.2.2 < c.2) with
                    | true =>
                      refine ⟨_, rfl, badR ?_⟩
                      unfold okR
                      rw [decide_eq_false (p := c.2 ≤ r.2.2.2) (by have := of_decide_eq_true t4; omega)]
                      simp
                    | false =>
                      have t4 := of_decide_eq_false t4
                      have good : okF rs ((i : Int) + 1) b g3 c = true := by
                        rw [okr]
                        unfold okR
                        rw [decide_eq_true (by omega), decide_eq_true (by omega), decide_eq_true (by omega), decide_eq_true (by omega)]
                        rfl
                      refine ⟨_, rfl, ⟨sp, S3, _, rfl, hS3⟩, _, rfl, sp, c.1, S3, _, rfl, rfl, hS3, (by show _ < 4096; omega), ?_⟩
                      have hno : S3 c.1 = false := by rw [hSg3, q2]
                      rw [hno]
                      have hsp0 : H sp = none := hsp
                      refine ⟨_, _, _, _, _, _, _, _, fun j => S3 j || decide (j = c.1), g3 ++ [c.1], c.1, rfl, same_mut e3 hsp0, ?_, fun z => ?_, ?_, ?_, a3, by omega⟩
                      · rw [upd_same, List.length_append]
                        rfl
                      · show (S3 z || decide (z = c.1)) = _
                        rw [hSg3]
                        simp
                      · rw [List.length_append]
                        show _ + 1 ≤ _
                        omega
                      · rw [hfl, hst3, good]
                        rfl
        · rintro σ H3 ⟨v6, v7, v8, v9, v10, v11, v12, v13, S3, g, b, rfl, e3, hS3, hSg3, hgl3, hfl, has3, hb0⟩
          rw [Paired.length r2, List.drop_length] at hfl
          have hfl : falls rs ((i : Int) + 1) 0 gone rep = some g := hfl
          rw [Paired.length r2] at hgl3
          have hds : dayStep rs ((i : Int) + 1) gone rep = if dueBad rs ((i : Int) + 1) g = true then none else some g := by
            unfold dayStep
            rw [hfl]
          refine ⟨_, rfl, p, _, dx, _, _, rfl, e3 _ _ h1, cl_Almanac T, na_Almanac_rains_list T, af_rains TT l, l, xs, rfl, SqL.of (e3 _ _ h2), for_enum0 (K := K) (a := l) (xs := xs) (fun m σ H' => ∃ v6 v7 v8 v9 v10 v11 v12 v13, σ = [some (.ref p), some (.ref a), some (.ref sp), some (.int (i : Nat)), some (.ref l2), some (.int ((i : Int) + 1)), v6, v7, v8, v9, v10, v11, v12, v13] ∧ Same H3 H' ∧ ∀ q, q < m → late rs ((i : Int) + 1) g q = false) ⟨_, _, _, _, _, _, _, _, rfl, Same.refl H3, fun q h => by omega⟩ (fun _ _ _ _ h => ?_) ?_ ?_⟩
          · obtain ⟨_, _, _, _, _, _, _, _, _, e, _⟩ := h
            exact SqL.of (e _ _ (e3 _ _ h2))
          · rintro m x σ H4 TQ hx4 ⟨v6, v7, v8, v9, v10, v11, v12, v13, rfl, e4, hlt⟩ hTQ
            obtain ⟨r, hr4, hq⟩ := paired_get h3 hx4
            obtain ⟨s5, g5⟩ := new2 (.tup [.int (m : Nat), x]) hTQ
            have e45 := e4.trans s5
            have hq := hq.same (e3.trans e45)
            have hml : m < rs.length := (List.getElem?_eq_some_iff.mp hr4).1
            have egr : rs.getD m (0, 0, 0, 0) = r := by rw [List.getD_eq_getElem?_getD, hr4]; rfl
            have el : late rs ((i : Int) + 1) g m = (decide (r.2.1 ≤ (i : Int) + 1) && !decide ((m : Int) + 1 ∈ g)) := by unfold late; rw [egr]
            refine ⟨TQ, _, rfl, SqT.of g5, rfl, _, _, rfl, _, _, rfl, rfl, ?_⟩
            refine ⟨_, rfl, hq.ix (i := 1) rfl ⟨_, rfl, _, _, rfl, rfl, _, rfl, ?_⟩⟩
            cases t1 : decide (r.2.1 ≤ (i : Int) + 1) with
            | false =>
              refine ⟨_, _, _, _, _, _, _, _, rfl, e45, fun q hq => ?_⟩
              by_cases eq : q = m
              · rw [eq, el, t1]
                rfl
              · exact hlt q (by omega)
            | true =>
              refine ⟨_, rfl, _, _, rfl, rfl, _, rfl, (m : Int) + 1, sp, S3, _, rfl, rfl, e45 _ _ hS3, _, rfl, ?_⟩
              rw [hSg3]
              cases t2 : decide ((m : Int) + 1 ∈ g) with
              | true =>
                refine ⟨_, _, _, _, _, _, _, _, rfl, e45, fun q hq => ?_⟩
                by_cases eq : q = m
                · rw [eq, el, t2]
                  simp
                · exact hlt q (by omega)
              | false =>
                refine ⟨_, rfl, ret _ (e3.trans e45) ?_⟩
                rw [hds, if_pos]
                unfold dueBad
                rw [List.any_eq_true]
                exact ⟨m, List.mem_range.mpr hml, by rw [el, t1, t2]; rfl⟩
          · rintro σ H4 ⟨v6, v7, v8, v9, v10, v11, v12, v13, rfl, e4, hlt⟩
            have hno : dueBad rs ((i : Int) + 1) g = false := by
              unfold dueBad
              rw [List.any_eq_false]
              intro q hq
              rw [hlt q (by rw [hxl]; exact List.mem_range.mp hq)]
              exact fun z => by cases z
            rw [hno] at hds
            have hds : dayStep rs ((i : Int) + 1) gone rep = some g := hds
            refine ⟨_, _, _, _, _, _, _, _, _, _, _, S3, g, rfl, e3.trans e4, e4 _ _ hS3, hSg3, by omega, ?_⟩
            rw [hfb, hst, hds]
            rfl
    · rintro σ H1 ⟨v3, v4, v5, v6, v7, v8, v9, v10, v11, v12, v13, S, gone, rfl, e1, hS, hSg, hgl, hfb⟩
      rw [Paired.length w2, List.drop_length] at hfb
      have : firstBad rs 1 [] W = 0 := hfb
      rw [this] at k
      exact k _ e1
end
end K26
end
section
set_option maxRecDepth 100000
set_option maxHeartbeats 4000000
namespace K26
open PySem PySem.Spec PyProof.Rows L2
def wrongOf (rs : List Q4) (T : Nat) (W : List (List (Int × Int))) : Int := if W.length = T then (if firstBad rs 1 [] W = 0 then -1 else firstBad rs 1 [] W) else 0
theorem inV_ints (n : Int) (ns : List Int) : inV (.int n) (ns.map V.int) = decide (n ∈ ns) := by
  unfold inV
  rw [List.any_map, Bool.eq_iff_iff, decide_eq_true_eq, List.any_eq_true]
  constructor
  · rintro ⟨m, hm, e⟩
    have : m = n := by simpa [eqV] using e
    rw [← this]
    exact hm
  · intro h
    exact ⟨n, h, by simp [eqV]⟩
theorem flat_ints (ns : List Int) : (ns.map V.int).all flatV = true := by
  rw [List.all_map]
  exact List.all_eq_true.mpr fun _ _ => rfl
section
variable {P : Program} {w : World} {K : PySem.W.Frag} {mg : Str → Option Value} {base : Heap}
def spFW : Sp := fun vs H Q _ => ∃ (T : Nat) (rl a : Addr) (xs : List V) (rs : List Q4) (W : List (List (Int × Int))), vs = [.int T, .ref rl, .ref a] ∧ H rl = some (.lst xs) ∧ Paired (QuadT H) xs rs ∧ WeaT H a W ∧ T ≤ 24 ∧ W.length ≤ 100 ∧ rs.length ≤ 40 ∧ (∀ r ∈ rs, GoodR r) ∧ total W ≤ 2000 ∧ ∀ H', Same H H' → Q (.int (wrongOf rs T W)) H'
theorem ok__law_first_wrong (T : Txt w K mg) : Ok P w K mg base CX0 1 "_law_first_wrong" ["days", "rains", "weather"] spFW := by
  refine Ok.def0 (f__law_first_wrong T) (fun _ _ _ _ _ _ us hl => match us, hl with | [_, _, _], _ => rfl) sc__law_first_wrong (fun vs H Q E h => ?_) (fun f cdv A outer s H vs Q E hr h => ?_)
  · obtain ⟨TT, rl, a, xs, rs, W, rfl, _⟩ := h
    rfl
  · obtain ⟨TT, rl, a, xs, rs, W, rfl, h2, h3, ⟨ys, w1, w2⟩, hT, hW, hl, hg, htot, k⟩ := h
    have hxl : xs.length = rs.length := Paired.length h3
    have hyl : ys.length = W.length := Paired.length w2
    refine ⟨_, (pss_cons (ps_if (pt_cmpR op_ne (pe_callB (len_seqK (K := K) rfl) rfl (n_len T) (by decide +kernel) (pa_cons (pv 2) pa_nil)) (pv 0) (nomark _)) (pss_one (ps_ret pe_int)) pss_nil)
      (pss_cons (ps_set (i := 3) sc__law_first_wrong.nd rfl (by first | exact Or.inl rfl | exact Or.inr rfl) (pe_lst pa_nil))
      (pss_cons (ps_for PassesOwn.never rfl (pi_range2 rfl (n_range T) (pa_cons pe_int (pa_cons (pe_op op_add (pv 0) pe_int) pa_nil))) (pg_name (i := 4) sc__law_first_wrong.nd rfl (by first | exact Or.inl rfl | exact Or.inr rfl))
        (pss_cons (ps_set (i := 5) sc__law_first_wrong.nd rfl (by first | exact Or.inl rfl | exact Or.inr rfl) pe_int)
      (pss_cons (ps_for PassesOwn.never rfl (pi_listK (K := K) rfl (pe_ix (ix_listK (K := K) rfl) (pv 2) (pe_op op_sub (pv 4) pe_int) (fun _ _ => rfl))) (pg_name (i := 6) sc__law_first_wrong.nd rfl (by first | exact Or.inl rfl | exact Or.inr rfl))
        (pss_cons (ps_set (i := 7) sc__law_first_wrong.nd rfl (by first | exact Or.inl rfl | exact Or.inr rfl) (pe_ix (ix_seqK (K := K) rfl) (pv 6) pe_int (fun _ _ => rfl)))
      (pss_cons (ps_if (PW.pt (pw_or (pt_cmpR op_le (pv 7) (pv 5) (nomark _)) (pw_or (pt_cmpR op_gt (pv 7) (pe_callB (len_seqK (K := K) rfl) rfl (n_len T) (by decide +kernel) (pa_cons (pv 1) pa_nil)) (nomark _)) (pw_or1 (pt_cmpR op_in_seq (pv 7) (pv 3) (by with_unfolding_all rfl)))))) (pss_one (ps_ret (pv 4))) pss_nil)
      (pss_cons (ps_set (i := 8) sc__law_first_wrong.nd rfl (by first | exact Or.inl rfl | exact Or.inr rfl) (pe_ix (ix_listK (K := K) rfl) (pv 1) (pe_op op_sub (pv 7) pe_int) (fun _ _ => rfl)))
      (pss_cons (ps_if (PW.pt (pw_or (pt_not (pt_chain op_le op_le (pe_ix (ix_seqK (K := K) rfl) (pv 8) pe_int (fun _ _ => rfl)) (pv 4) (pe_ix (ix_seqK (K := K) rfl) (pv 8) pe_int (fun _ _ => rfl)))) (pw_or1 (pt_not (pt_chain op_le op_le (pe_ix (ix_seqK (K := K) rfl) (pv 8) pe_int (fun _ _ => rfl)) (pe_ix (ix_seqK (K := K) rfl) (pv 6) pe_int (fun _ _ => rfl)) (pe_ix (ix_seqK (K := K) rfl) (pv 8) pe_int (fun _ _ => rfl))))))) (pss_one (ps_ret (pv 4))) pss_nil)
      (pss_cons (ps_set (i := 5) sc__law_first_wrong.nd rfl (by first | exact Or.inl rfl | exact Or.inr rfl) (pv 7))
      (pss_one (ps_expr (pe_bm PySem.F.plainAttrs_list PySem.F.slot_list_append PySem.F.type_list_append mt_append (pv 3) (pa_cons (pv 7) pa_nil))))))))))
      (pss_one (ps_for PassesOwn.never rfl (pi_range1 rfl (n_range T) (pa_cons (pe_callB (len_seqK (K := K) rfl) rfl (n_len T) (by decide +kernel) (pa_cons (pv 1) pa_nil)) pa_nil)) (pg_name (i := 9) sc__law_first_wrong.nd rfl (by first | exact Or.inl rfl | exact Or.inr rfl))
        (pss_one (ps_if (PW.pt (pw_and (pt_cmpR op_eq (pe_ix (ix_seqK (K := K) rfl) (pe_ix (ix_listK (K := K) rfl) (pv 1) (pv 9) (fun _ _ => rfl)) pe_int (fun _ _ => rfl)) (pv 4) (nomark _)) (pw_and1 (pt_cmpR op_notIn_seq (pe_op op_add (pv 9) pe_int) (pv 3) (by with_unfolding_all rfl))))) (pss_one (ps_ret (pv 4))) pss_nil)))))))
      (pss_one (ps_ret (pe_un un_neg pe_int)))))), ?_⟩
    refine ⟨_, rfl, _, _, rfl, .inl (SqL.of w1), _, rfl, rfl, _, rfl, ?_⟩
    rw [hyl]
    have ecast : (!decide (V.int (W.length : Int) = V.int (TT : Int))) = !decide (W.length = TT) := by
      congr 1
      rw [decide_eq_decide]
      exact ⟨fun z => by cases z; omega, fun z => by rw [z]⟩
    rw [ecast]
    cases hlen : decide (W.length = TT) with
    | false =>
      have hlen := of_decide_eq_false hlen
      have : wrongOf rs TT W = 0 := by unfold wrongOf; rw [if_neg hlen]
      rw [this] at k
      exact k _ (Same.refl H)
    | true =>
      have hlen := of_decide_eq_true hlen
      have kw : ∀ H', Same H H' → firstBad rs 1 [] W = 0 → Q (.int (-1)) H' := fun H' e z => by
        have : wrongOf rs TT W = -1 := by unfold wrongOf; rw [if_pos hlen, if_pos z]
        rw [this] at k
        exact k H' e
      have kb : ∀ H' (d : Int), Same H H' → d ≠ 0 → firstBad rs 1 [] W = d → Q (.int d) H' := fun H' d e hd z => by
        have : wrongOf rs TT W = d := by unfold wrongOf; rw [if_pos hlen, z, if_neg hd]
        rw [this] at k
        exact k H' e
      refine ⟨(by show 0 ≤ sizeLine; decide), fun gl hgl0 => ?_⟩
      obtain ⟨s1, g1⟩ := new2 (.lst []) hgl0
      refine ⟨_, rfl, _, _, rfl, rfl, 1, TT + 1, rfl, by omega, for_upto (lo := 1) (L := TT) (by omega) (fun i σ H' => ∃ v4 v5 v6 v7 v8 v9 gone, σ = [some (.int TT), some (.ref rl), some (.ref a), some (.ref gl), v4, v5, v6, v7, v8, v9] ∧ Same H H' ∧ H' gl = some (.lst ((gone : List Int).map V.int)) ∧ gone.length ≤ total (W.take i) ∧ firstBad rs 1 [] W = firstBad rs ((i : Int) + 1) gone (W.drop i) ∧ ∀ (q : Nat) (r : Q4), rs[q]? = some r → r.2.1 < (i : Int) + 1 → (q : Int) + 1 ∈ gone) ⟨_, _, _, _, _, _, [], rfl, s1, g1, Nat.zero_le _, rfl, fun q r hq hr => ?_⟩ ?_ ?_⟩
      · have := hg r (List.mem_of_getElem? hq)
        unfold GoodR at this
        omega
      · rintro i σ H1 hi ⟨v4, v5, v6, v7, v8, v9, gone, rfl, e1, hgl, hgn, hfb, hold⟩
        have ed : (1 : Int) + (i : Int) = (i : Int) + 1 := by omega
        rw [ed]
        obtain ⟨rep, hrep⟩ : ∃ rep, W[i]? = some rep := ⟨W[i]'(by omega), List.getElem?_eq_getElem _⟩
        obtain ⟨x, hx⟩ : ∃ x, ys[i]? = some x := ⟨ys[i]'(by omega), List.getElem?_eq_getElem _⟩
        obtain ⟨rep', hrep', l2, zs, rfl, r1, r2⟩ := paired_get w2 hx
        rw [hrep] at hrep'
        cases hrep'
        rw [drop_get hrep] at hfb
        have hst : firstBad rs ((i : Int) + 1) gone (rep :: W.drop (i + 1)) = match dayStep rs ((i : Int) + 1) gone rep with
          | none => ((i : Int) + 1)
          | some g' => firstBad rs ((i : Int) + 1 + 1) g' (W.drop (i + 1)) := rfl
        have ret : ∀ H', Same H H' → dayStep rs ((i : Int) + 1) gone rep = none → Q (.int ((i : Int) + 1)) H' := fun H' e hd => by
          rw [hd] at hst
          exact kb H' _ e (by omega) (hfb.trans hst)
        have hbnd : gone.length + rep.length ≤ total (W.take (i + 1)) := by
          rw [total_step hrep]
          omega
        have htk : total (W.take (i + 1)) ≤ 2000 := Nat.le_trans (total_le W (i + 1)) htot
        refine gnE ?_
        refine ⟨_, rfl, _, rfl, _, _, rfl, rfl, a, ys, _, _, rfl, rfl, SqL.of (e1 _ _ w1), at_of (by omega) hx, l2, rfl, ⟨_, SqL.of (e1 _ _ r1)⟩, for_list (K := K) (a := l2) (xs := zs) (fun j σ H' => ∃ v6 v7 v8 v9 g b, σ = [some (.int TT), some (.ref rl), some (.ref a), some (.ref gl), some (.int ((i : Int) + 1)), some (.int b), v6, v7, v8, v9] ∧ Same H H' ∧ H' gl = some (.lst ((g : List Int).map V.int)) ∧ g.length ≤ gone.length + j ∧ falls rs ((i : Int) + 1) 0 gone rep = falls rs ((i : Int) + 1) b g (rep.drop j) ∧ 0 ≤ b ∧ ∀ z ∈ gone, z ∈ g) ⟨_, _, _, _, gone, 0, rfl, e1, hgl, Nat.le_refl _, rfl, Int.le_refl 0, fun z h => h⟩ (fun _ _ _ _ h => ?_) ?_ ?_⟩
        · obtain ⟨_, _, _, _, _, _, _, e, _⟩ := h
          exact SqL.of (e _ _ r1)
        · rintro j x σ H3 hx3 ⟨v6, v7, v8, v9, g, b, rfl, e3, hg3, hgl3, hfl, hb0, hsub⟩
          obtain ⟨c, hc, hr⟩ := paired_get r2 hx3
          have hr := hr.same e3
          have hj : j < rep.length := (List.getElem?_eq_some_iff.mp hc).1
          rw [drop_get hc] at hfl
          have hst3 : falls rs ((i : Int) + 1) b g (c :: rep.drop (j + 1)) = if okF rs ((i : Int) + 1) b g c = true then falls rs ((i : Int) + 1) c.1 (g ++ [c.1]) (rep.drop (j + 1)) else none := rfl
          have bad : okF rs ((i : Int) + 1) b g c = false → Q (.int ((i : Int) + 1)) H3 := fun q => ret _ e3 (by
            unfold dayStep
            rw [hfl, hst3, q]
            rfl)
          refine ⟨_, rfl, hr.i0 ⟨_, rfl, _, rfl, _, _, rfl, rfl, _, rfl, ?_⟩⟩
          cases q0 : decide (c.1 ≤ b) with
          | true =>
            refine ⟨_, rfl, bad ?_⟩
            unfold okF
            rw [decide_eq_false (p := b < c.1) (by have := of_decide_eq_true q0; omega)]
            rfl
          | false =>
            have q0 := of_decide_eq_false q0
            refine ⟨_, rfl, _, rfl, _, _, rfl, .inl (SqL.of (e3 _ _ h2)), _, _, rfl, rfl, _, rfl, ?_⟩
            rw [hxl]
            cases q1 : decide ((rs.length : Int) < c.1) with
            | true =>
              refine ⟨_, rfl, bad ?_⟩
              unfold okF
              rw [decide_eq_false (p := c.1 ≤ (rs.length : Int)) (by have := of_decide_eq_true q1; omega)]
              simp
            | false =>
              have q1 := of_decide_eq_false q1
              refine ⟨_, rfl, _, rfl, gl, _, rfl, .inl (SqL.of hg3), rfl, flat_ints _, decide (c.1 ∈ g), congrArg V.bl (inV_ints c.1 g), ?_⟩
              cases q2 : decide (c.1 ∈ g) with
              | true =>
                refine ⟨_, rfl, bad ?_⟩
                unfold okF
                rw [q2]
                simp
              | false =>
                obtain ⟨n, hn⟩ : ∃ n : Nat, c.1 = (n : Int) + 1 := ⟨(c.1 - 1).toNat, by omega⟩
                have hnl : n < rs.length := by omega
                obtain ⟨r, hr4⟩ : ∃ r, rs[n]? = some r := ⟨rs[n], List.getElem?_eq_getElem hnl⟩
                obtain ⟨y, hy⟩ : ∃ y, xs[n]? = some y := ⟨xs[n]'(by omega), List.getElem?_eq_getElem _⟩
                obtain ⟨r', hr', hq⟩ := paired_get h3 hy
                rw [hr4] at hr'
                cases hr'
                have hq := hq.same e3
                have egr : rs.getD (c.1 - 1).toNat (0, 0, 0, 0) = r := by
                  have : (c.1 - 1).toNat = n := by omega
                  rw [this, List.getD_eq_getElem?_getD, hr4]
                  rfl
                have okr : okF rs ((i : Int) + 1) b g c = okR r ((i : Int) + 1) c.2 := by
                  unfold okF
                  rw [egr, decide_eq_true (p := b < c.1) (by omega), decide_eq_true (p := c.1 ≤ (rs.length : Int)) (by omega), q2]
                  rfl
                have badR : okR r ((i : Int) + 1) c.2 = false → Q (.int ((i : Int) + 1)) H3 := fun q => bad (okr.trans q)
                refine ⟨_, rfl, _, rfl, _, _, rfl, rfl, rl, xs, _, y, rfl, rfl, SqL.of (e3 _ _ h2), at_of (by omega) hy, ?_⟩
                refine ⟨_, rfl, hq.ix (i := 0) rfl ⟨_, rfl, _, _, rfl, rfl, _, rfl, ?_⟩⟩
                cases t1 : decide (r.1 ≤ (i : Int) + 1) with
                | false =>
                  refine ⟨_, rfl, _, rfl, badR ?_⟩
                  unfold okR
                  rw [t1]
                  rfl
                | true =>
                  refine ⟨_, rfl, hq.ix (i := 1) rfl ⟨_, _, rfl, rfl, _, rfl, ?_⟩⟩
                  cases t2 : decide ((i : Int) + 1 ≤ r.2.1) with
                  | false =>
                    refine ⟨_, rfl, badR ?_⟩
                    unfold okR
                    rw [t2]
                    simp
                  | true =>
                    refine ⟨_, rfl, hq.ix (i := 2) rfl ⟨_, rfl, hr.i1 ⟨_, _, rfl, rfl, _, rfl, ?_⟩⟩⟩
                    cases t3 : decide (r.2.2.1 ≤ c.2) with
                    | false =>
                      refine ⟨_, rfl, _, rfl, badR ?_⟩
                      unfold okR
                      rw [t3]
                      simp
                    | true =>
                      refine ⟨_, rfl, hq.ix (i := 3) rfl ⟨_, _, rfl, rfl, _, rfl, ?_⟩⟩
                      cases t4 : decide (c.2 ≤ r.2.2.2) with
                      | false =>
                        refine ⟨_, rfl, badR ?_⟩
                        unfold okR
                        rw [t4]
                        simp
                      | true =>
                        have good : okF rs ((i : Int) + 1) b g c = true := by
                          rw [okr]
                          unfold okR
                          rw [t1, t2, t3, t4]
                          rfl
                        refine ⟨_, rfl, _, rfl, .inl ⟨rfl, _, SqL.of hg3⟩, _, rfl, gl, _, _, rfl, rfl, hg3, line_lt (by rw [List.length_map]; omega), ?_⟩
                        refine ⟨_, _, _, _, g ++ [c.1], c.1, rfl, same_mut e3 hgl0, by rw [upd_same, List.map_append]; rfl, by rw [List.length_append]; show _ + 1 ≤ _; omega, ?_, by omega, fun z hz => List.mem_append_left _ (hsub z hz)⟩
                        rw [hfl, hst3, good]
                        rfl
        · rintro σ H3 ⟨v6, v7, v8, v9, g, b, rfl, e3, hg3, hgl3, hfl, hb0, hsub⟩
          rw [Paired.length r2, List.drop_length] at hfl
          have hfl : falls rs ((i : Int) + 1) 0 gone rep = some g := hfl
          rw [Paired.length r2] at hgl3
          have hds : dayStep rs ((i : Int) + 1) gone rep = if dueBad rs ((i : Int) + 1) g = true then none else some g := by
            unfold dayStep
            rw [hfl]
          refine ⟨_, rfl, _, _, rfl, .inl (SqL.of (e3 _ _ h2)), _, rfl, by omega, by omega, for_upto (lo := 0) (L := rs.length) (by rw [hxl]; omega) (fun m σ H' => ∃ v6 v7 v8 v9, σ = [some (.int TT), some (.ref rl), some (.ref a), some (.ref gl), some (.int ((i : Int) + 1)), some (.int b), v6, v7, v8, v9] ∧ Same H3 H' ∧ ∀ q r, q < m → rs[q]? = some r → r.2.1 = (i : Int) + 1 → (q : Int) + 1 ∈ g) ⟨_, _, _, _, rfl, Same.refl H3, fun q r h => by omega⟩ ?_ ?_⟩
          · rintro m σ H4 hm ⟨v6, v7, v8, v9, rfl, e4, hlt⟩
            have em : (0 : Int) + (m : Int) = (m : Int) := by omega
            rw [em]
            refine gnE ?_
            obtain ⟨r, hr4⟩ : ∃ r, rs[m]? = some r := ⟨rs[m], List.getElem?_eq_getElem hm⟩
            obtain ⟨y, hy⟩ : ∃ y, xs[m]? = some y := ⟨xs[m]'(by omega), List.getElem?_eq_getElem _⟩
            obtain ⟨r', hr', hq⟩ := paired_get h3 hy
            rw [hr4] at hr'
            cases hr'
            have e34 := e3.trans e4
            have hq := hq.same e34
            refine ⟨_, rfl, _, rfl, rl, xs, _, y, rfl, rfl, SqL.of (e34 _ _ h2), at_of rfl hy, hq.ix (i := 1) rfl ⟨_, rfl, rfl, _, rfl, ?_⟩⟩
            have ec : decide (V.int r.2.1 = V.int ((i : Int) + 1)) = decide (r.2.1 = (i : Int) + 1) := by
              rw [decide_eq_decide]
              exact ⟨fun z => V.int.inj z, fun z => by rw [z]⟩
            rw [ec]
            cases t1 : decide (r.2.1 = (i : Int) + 1) with
            | false =>
              have t1 := of_decide_eq_false t1
              refine ⟨_, _, _, _, rfl, e4, fun q r' hq hr' ht => ?_⟩
              by_cases eq : q = m
              · rw [eq, hr4] at hr'
                cases hr'
                exact absurd ht t1
              · exact hlt q r' (by omega) hr' ht
            | true =>
              have t1 := of_decide_eq_true t1
              refine ⟨_, rfl, _, _, rfl, rfl, _, rfl, gl, _, rfl, .inl (SqL.of (e4 _ _ hg3)), rfl, flat_ints _, !decide ((m : Int) + 1 ∈ g), congrArg (fun z => V.bl (!z)) (inV_ints ((m : Int) + 1) g), ?_⟩
              cases t2 : decide ((m : Int) + 1 ∈ g) with
              | true =>
                have t2 := of_decide_eq_true t2
                refine ⟨_, _, _, _, rfl, e4, fun q r' hq hr' ht => ?_⟩
                by_cases eq : q = m
                · rw [eq]
                  exact t2
                · exact hlt q r' (by omega) hr' ht
              | false =>
                refine ⟨_, rfl, ret _ e34 ?_⟩
                rw [hds, if_pos]
                unfold dueBad
                rw [List.any_eq_true]
                refine ⟨m, List.mem_range.mpr hm, ?_⟩
                unfold late
                rw [List.getD_eq_getElem?_getD, hr4]
                show (decide (r.2.1 ≤ (i : Int) + 1) && !decide ((m : Int) + 1 ∈ g)) = true
                rw [t2, decide_eq_true (by omega)]
                rfl
          · rintro σ H4 ⟨v6, v7, v8, v9, rfl, e4, hlt⟩
            have hin : ∀ (q : Nat) (r : Q4), rs[q]? = some r → r.2.1 < (i : Int) + 1 + 1 → (q : Int) + 1 ∈ g := fun q r hr ht => by
              by_cases c : r.2.1 = (i : Int) + 1
              · exact hlt q r (List.getElem?_eq_some_iff.mp hr).1 hr c
              · exact hsub _ (hold q r hr (by omega))
            have hno : dueBad rs ((i : Int) + 1) g = false := by
              unfold dueBad
              rw [List.any_eq_false]
              intro q hq
              have hql := List.mem_range.mp hq
              unfold late
              rw [List.getD_eq_getElem?_getD, List.getElem?_eq_getElem hql]
              show ¬(decide (rs[q].2.1 ≤ (i : Int) + 1) && !decide ((q : Int) + 1 ∈ g)) = true
              intro z
              simp only [Bool.and_eq_true, decide_eq_true_eq, Bool.not_eq_true', decide_eq_false_iff_not] at z
              exact z.2 (hin q _ (List.getElem?_eq_getElem hql) (by omega))
            rw [hno] at hds
            have hds : dayStep rs ((i : Int) + 1) gone rep = some g := hds
            refine ⟨_, _, _, _, _, _, g, rfl, e3.trans e4, e4 _ _ hg3, by omega, ?_, fun q r hr ht => hin q r hr (by omega)⟩
            rw [hfb, hst, hds]
            have : (((i + 1 : Nat) : Int) + 1) = (i : Int) + 1 + 1 := by omega
            rw [this]
      · rintro σ H1 ⟨v4, v5, v6, v7, v8, v9, gone, rfl, e1, hgl, hgn, hfb, hold⟩
        rw [← hlen, List.drop_length] at hfb
        exact ⟨_, rfl, kw _ e1 hfb⟩
end
end K26
end
section
set_option maxRecDepth 100000
set_option maxHeartbeats 4000000
namespace K26
open PySem PySem.Spec PyProof.Rows L2
/-- the stretches that end on day n + 1, up to first day k -/
def strRow (n k : Nat) : List (Int × Int) := (List.range k).map fun (a : Nat) => ((a : Int), (n : Int) + 1)
def strL : Nat → List (Int × Int)
  | 0 => []
  | n + 1 => strL n ++ strRow n (n + 1)
theorem strRow_succ {n k : Nat} : strRow n (k + 1) = strRow n k ++ [((k : Int), (n : Int) + 1)] := by
  unfold strRow
  rw [List.range_succ, List.map_append]
  rfl
theorem strRow_len {n k : Nat} : (strRow n k).length = k := by unfold strRow; rw [List.length_map, List.length_range]
theorem strL_len : ∀ n, n ≤ 24 → (strL n).length ≤ n * 24
  | 0, _ => Nat.zero_le _
  | n + 1, h => by
    show (strL n ++ strRow n (n + 1)).length ≤ _
    rw [List.length_append, strRow_len]
    have := strL_len n (by omega)
    omega
theorem strL_mem : ∀ {n : Nat} {c : Int × Int}, c ∈ strL n → ∃ a b : Nat, a < b ∧ b ≤ n ∧ c = ((a : Int), (b : Int))
  | 0, c, h => by cases h
  | n + 1, c, h => by
    rcases List.mem_append.mp h with h | h
    · obtain ⟨a, b, h1, h2, rfl⟩ := strL_mem h
      exact ⟨a, b, h1, by omega, rfl⟩
    · obtain ⟨a, ha, rfl⟩ := List.mem_map.mp h
      exact ⟨a, n + 1, List.mem_range.mp ha, Nat.le_refl _, rfl⟩
theorem _root_.L2.PairT.but {H H' : Hp} {D : Addr} {ys : List V} (hD : H D = some (.lst ys)) (e : But D H H') {x : V} {c : Int × Int} (h : PairT H x c) : PairT H' x c := by
  obtain ⟨t, rfl, h⟩ := h
  exact ⟨t, rfl, e _ _ h fun z => by rw [z, hD] at h; cases h⟩
theorem _root_.PySem.Paired.append {α β : Type} {F : α → β → Prop} {l₁ : List α} {m₁ : List β} (h1 : Paired F l₁ m₁) : ∀ {l₂ : List α} {m₂ : List β}, Paired F l₂ m₂ → Paired F (l₁ ++ l₂) (m₁ ++ m₂) := by
  induction h1 with
  | nil => exact fun h => h
  | cons a _ ih => exact fun h => .cons a (ih h)
section
variable {P : Program} {w : World} {K : PySem.W.Frag} {mg : Str → Option Value} {base : Heap}
def spStr : Sp := fun vs H Q _ => ∃ T : Nat, vs = [.int T] ∧ T ≤ 24 ∧ ∀ p ys H', Same H H' → H p = none → H' p = some (.lst ys) → Paired (PairT H') ys (strL T) → Q (.ref p) H'
theorem ok_all_stretches (T : Txt w K mg) : Ok P w K mg base CX0 1 "all_stretches" ["days"] spStr := by
  refine Ok.def0 (f_all_stretches T) (fun _ _ _ _ _ _ us hl => match us, hl with | [_], _ => rfl) sc_all_stretches (fun vs H Q E h => ?_) (fun f cdv A outer s H vs Q E hr h => ?_)
  · obtain ⟨TT, rfl, _⟩ := h
    rfl
  · obtain ⟨TT, rfl, hT, k⟩ := h
    refine ⟨_, (pss_one (ps_ret (pe_lc2 (own := [("b", 1), ("a", 2)]) (vs1 := [2]) rfl sc_all_stretches.nd (pi_range2 rfl (n_range T) (pa_cons pe_int (pa_cons (pe_op op_add (pv 0) pe_int) pa_nil))) (blkOk_by (N := ["days", "b", "a"]) (sc := defScope s_all_stretches) (by decide +kernel)) (by decide) (fun _ _ _ _ _ => (pg_name (i := 1) sc_all_stretches.nd rfl (by first | exact Or.inl rfl | exact Or.inr rfl))) (fun _ _ _ _ _ => pts_nil) (fun _ _ _ _ _ => (pi_range1 rfl (n_range T) (pa_cons (pv 1) pa_nil))) (fun _ _ _ _ _ => (pg_name (i := 2) sc_all_stretches.nd rfl (by first | exact Or.inl rfl | exact Or.inr rfl))) (fun _ _ _ _ _ => pts_nil) (fun _ _ _ _ _ => (pe_tup (pa_cons (pv 2) (pa_cons (pv 1) pa_nil))))))), ?_⟩
    refine ⟨_, rfl, _, _, rfl, rfl, _, _, rfl, by omega, fun D hD => ?_⟩
    refine rng_W (lo := 1) (L := TT) (by omega) (fun i H' => Same H H' ∧ ∃ ys, H' D = some (.lst ys) ∧ Paired (PairT H') ys (strL i)) ⟨same_new hD, [], upd_same, .nil⟩ ?_ ?_
    · rintro i H1 hi ⟨e1, ys1, g1, p1⟩
      have z1 : (1 : Int) + (i : Int) = (i : Int) + 1 := by omega
      refine ⟨rfl, ?_⟩
      refine ⟨_, rfl, _, rfl, by omega, by omega, rng_W (lo := 0) (L := i + 1) (by omega) (fun j H' => Same H H' ∧ ∃ ys, H' D = some (.lst ys) ∧ Paired (PairT H') ys (strL i ++ strRow i j)) ⟨e1, ys1, g1, by unfold strRow; simpa using p1⟩ ?_ ?_⟩
      · rintro j H2 hj ⟨e2, ys2, g2, p2⟩
        have z2 : (0 : Int) + (j : Int) = (j : Int) := by omega
        refine ⟨rfl, ?_⟩
        refine ⟨_, rfl, _, rfl, (by show 2 ≤ sizeLine; decide), fun t ht => ?_⟩
        rw [z1, z2]
        obtain ⟨s3, g3⟩ := new2 (.tup [.int (j : Int), .int ((i : Int) + 1)]) ht
        refine ⟨ys2, s3 _ _ g2, line_lt ?_, same_mut (e2.trans s3) hD, _, upd_same, ?_⟩
        · rw [Paired.length p2, List.length_append, strRow_len]
          have := strL_len i (by omega)
          omega
        · rw [strRow_succ, ← List.append_assoc]
          exact Paired.snoc (Paired.mapP p2 fun _ _ z => (z.same s3).mut (s3 _ _ g2)) ((show PairT _ (.ref t) ((j : Int), (i : Int) + 1) from ⟨t, rfl, g3⟩).mut (s3 _ _ g2))
      · rintro H2 ⟨e2, ys2, g2, p2⟩
        exact ⟨e2, ys2, g2, p2⟩
    · rintro H1 ⟨e1, ys1, g1, p1⟩
      exact k D ys1 H1 e1 hD g1 p1
theorem ok__law_stretches (T : Txt w K mg) : Ok P w K mg base CX0 1 "_law_stretches" ["days"] spStr := by
  refine Ok.def0 (f__law_stretches T) (fun _ _ _ _ _ _ us hl => match us, hl with | [_], _ => rfl) sc__law_stretches (fun vs H Q E h => ?_) (fun f cdv A outer s H vs Q E hr h => ?_)
  · obtain ⟨TT, rfl, _⟩ := h
    rfl
  · obtain ⟨TT, rfl, hT, k⟩ := h
    refine ⟨_, (pss_cons (ps_set (i := 1) sc__law_stretches.nd rfl (by first | exact Or.inl rfl | exact Or.inr rfl) (pe_lst pa_nil))
      (pss_cons (ps_for PassesOwn.never rfl (pi_range2 rfl (n_range T) (pa_cons pe_int (pa_cons (pe_op op_add (pv 0) pe_int) pa_nil))) (pg_name (i := 2) sc__law_stretches.nd rfl (by first | exact Or.inl rfl | exact Or.inr rfl))
        (pss_one (ps_set (i := 1) sc__law_stretches.nd rfl (by first | exact Or.inl rfl | exact Or.inr rfl) (pe_op op_cat (pv 1) (pe_lc (own := [("a", 3)]) rfl sc__law_stretches.nd (pi_range1 rfl (n_range T) (pa_cons (pv 2) pa_nil)) (blkOk_by (N := ["days", "found", "b", "a"]) (sc := defScope s__law_stretches) (by decide +kernel)) (fun _ _ _ _ _ => (pg_name (i := 3) sc__law_stretches.nd rfl (by first | exact Or.inl rfl | exact Or.inr rfl))) (fun _ _ _ _ _ => pts_nil) (fun _ _ _ _ _ => (pe_tup (pa_cons (pv 3) (pa_cons (pv 2) pa_nil)))))))))
      (pss_one (ps_ret (pv 1))))), ?_⟩
    refine ⟨(by show 0 ≤ sizeLine; decide), fun D hD => ?_⟩
    obtain ⟨s1, g1⟩ := new2 (.lst []) hD
    refine ⟨_, rfl, _, _, rfl, rfl, _, _, rfl, by omega, for_upto (lo := 1) (L := TT) (by omega) (fun i σ H' => ∃ v2 v3 p ys, σ = [some (.int TT), some (.ref p), v2, v3] ∧ Same H H' ∧ H p = none ∧ H' p = some (.lst ys) ∧ Paired (PairT H') ys (strL i)) ⟨_, _, D, [], rfl, s1, hD, g1, .nil⟩ ?_ ?_⟩
    · rintro i σ H1 hi ⟨v2, v3, p, ys, rfl, e1, hp, h1, p1⟩
      have z1 : (1 : Int) + (i : Int) = (i : Int) + 1 := by omega
      rw [z1]
      refine gnE ?_
      refine ⟨_, rfl, _, rfl, _, rfl, by omega, by omega, fun D2 hD2 => lc_upto (lo := 0) (L := i + 1) (by omega) hD2 (by omega) (fun j acc H' => Paired (PairT H') acc (strRow i j)) (fun _ _ => .nil) ?_ ?_⟩
      · rintro j acc H2 N N0 hj e2 g2 p2 hN hN0
        have z2 : (0 : Int) + (j : Int) = (j : Int) := by omega
        rw [z2]
        refine gnE ⟨rfl, ?_⟩
        refine ⟨_, rfl, _, rfl, (by show 2 ≤ sizeLine; decide), fun t ht => ?_⟩
        obtain ⟨s3, g3⟩ := new2 (.tup [.int (j : Int), .int ((i : Int) + 1)]) ht
        refine hN _ _ s3 fun H5 b5 _ => ?_
        rw [strRow_succ]
        exact Paired.snoc (Paired.mapP p2 fun _ _ z => (z.same s3).but (s3 _ _ g2) b5) ((show PairT _ (.ref t) ((j : Int), (i : Int) + 1) from ⟨t, rfl, g3⟩).but (s3 _ _ g2) b5)
      · rintro acc H2 e2 g2 hal p2
        have hl := strL_len i (by omega)
        refine ⟨p, D2, ys, acc, rfl, rfl, e2 _ _ h1, g2, Nat.le_of_lt (line_lt ?_), fun l hl => ?_⟩
        · rw [Paired.length p1]
          omega
        · obtain ⟨s3, g3⟩ := new2 (.lst (ys ++ acc)) hl
          have e4 := e1.trans (e2.trans s3)
          exact ⟨_, _, l, ys ++ acc, rfl, e4, none_of (e1.trans e2) hl, g3, (Paired.append (Paired.mapP p1 fun _ _ z => z.same (e2.trans s3)) (Paired.mapP p2 fun _ _ z => z.same s3))⟩
    · rintro σ H1 ⟨v2, v3, p, ys, rfl, e1, hp, h1, p1⟩
      exact ⟨_, rfl, k p ys H1 e1 hp h1 p1⟩
end
end K26
end
section
set_option maxRecDepth 100000
set_option maxHeartbeats 4000000
namespace L2
open PySem PySem.Spec PyProof.Rows
/-! ### the handled exception asked for one of several classes -/
section
variable {X : Cx} {p : Addr × Obj} {d : Option Addr} {D : Addr}
def rIsDT (K : PySem.W.Frag) (D a d : Addr) : List V → Hp → VK → Prop := fun xs H Q => ∃ (tp : Addr) (cs : List V) (us : List Value) (b : Bool) (fs : List (Str × V)), xs = [.ref a, .ref tp] ∧ H tp = some (.tup cs) ∧ Paired ClsV cs us ∧ H d = some (.xd fs) ∧ PySem.W.kitAny K (.ref D) us = some b ∧ Q (.bl b) H
theorem call_isDT {d : Addr} (hp : p ∈ X.pn) (T : ExcC X.K D) (hz : Zc (.ref D) (some d) p.2) (hf : ∃ vs, p.2.data = .fields vs) : CallR X (.builtin "isinstance") (rIsDT X.K D p.1 d) := by
  intro pins s σ H xs us Q I r h
  obtain ⟨tp, cs, ws, b, fs, rfl, hT, k, hd, hk, q⟩ := h
  obtain ⟨u1, u2, rfl, r1, r2⟩ := vals2 r
  obtain rfl : u1 = Value.ref p.1 := r1
  obtain rfl : u2 = Value.ref tp := r2
  obtain ⟨mA, hns, _⟩ := (show ObjOk X.prog X.w H s.heap d (.xd fs) from I.hok d _ hd)
  obtain ⟨od, hod, _⟩ := lookIn_ns hns
  obtain ⟨vs, hdat⟩ := hf
  have at_ : PySem.W.InstAt s.heap p.1 p.2 D (some od) := ⟨(I.pin p (List.mem_append_left _ hp)).1, hz.1, by unfold PySem.W.notCls; rw [hdat] <;> rfl, by rw [hz.2]; exact hod⟩
  obtain ⟨cd, hc, _⟩ := PySem.W.any_some T.hd
  obtain ⟨_, its, rv, o, h1, h2, n, h3⟩ := (show ObjOk X.prog X.w H s.heap tp (.tup cs) from I.hok tp _ hT)
  have e3 := ClsV.all k rv
  subst e3
  obtain ⟨oc, odd, dt, sl⟩ := o
  simp only at h2 h3
  subst h2 h3
  exact PySem.W.kia_tup (PySem.W.kitx_exc (gt := none) (by rw [hc]; rfl) T.hg T.hk T.hs T.ha T.hn T.ht T.hm) I.kIn at_ h1 hk (fun z => nomatch z) fun tk => ⟨.bl b, H, I.tok tk, rfl, q⟩
end
end L2
end
section
set_option maxRecDepth 100000
set_option maxHeartbeats 4000000
namespace L2
open PySem PySem.Spec PyProof.Rows
/-! ### sorted(xs), xs a list of any number of tuples of d ints in [0, B) -/
section
variable {prog : Program} {w : World} {A : Around} {s : Shared}
theorem swoR (r : Value → Int) : SrtO.Swo fun v u => decide (r v < r u) :=
  ⟨fun x y h => decide_eq_false (by have := of_decide_eq_true h; omega), fun x y z h1 h2 => decide_eq_false (by
    have a := of_decide_eq_false h1
    have b := of_decide_eq_false h2
    omega)⟩
/-- two tuples compare as their codes do -/
theorem cmpU {d : Nat} {B : Int} {vs : List Value} (hx : TS.TupsOk s.heap d B vs) (r : Value → Int) (hr : ∀ v ∈ vs, ∀ ns, TS.TupInts s.heap v ns → r v = TS.code B ns) :
    SrtO.Cmp prog w A s (tuples' true) (fun p => p.1 ∈ vs) (SrtO.lt2 fun v u => decide (r v < r u)) := by
  intro p q hp hq
  obtain ⟨ns, T1, n1, b1⟩ := hx _ hp
  obtain ⟨ms, T2, n2, b2⟩ := hx _ hq
  have e : (decide (TS.code B ns < TS.code B ms)) = SrtO.lt2 (fun v u => decide (r v < r u)) p q := by
    show _ = decide (r p.1 < r q.1)
    rw [hr _ hp _ T1, hr _ hq _ T2]
  obtain ⟨a1, l1, e1, ⟨o1, g1, c1, k1, h1⟩, i1⟩ := T1
  obtain ⟨a2, l2, e2, ⟨o2, g2, c2, k2, h2⟩, i2⟩ := T2
  have z1 := i1.length
  have z2 := i2.length
  rw [Array.length_toList] at z1 z2
  rw [e1, e2]
  refine PySem.W.kat_lt g1 h1 g2 h2 ?_
  have z : decide (l1.size < l2.size) = false := decide_eq_false (by omega)
  rw [z]
  exact TS.lex_ints 0 i1 i2 (n1.trans n2.symm) b1 b2 ⟨rfl, e⟩
theorem sortableU {d : Nat} {B : Int} {a : Addr} {vs : List Value} (hd : 1 ≤ d) (h0 : 0 < vs.length) (hx : TS.TupsOk s.heap d B vs) (ha : ∀ o, s.heap.get? a = some o → o.cls ≠ .type "tuple")
    (r : Value → Int) (hr : ∀ v ∈ vs, ∀ ns, TS.TupInts s.heap v ns → r v = TS.code B ns) : SrtO.SortableO prog w A s a vs fun v u => decide (r v < r u) := by
  intro h' keep
  have kp : ∀ b o, s.heap.get? b = some o → o.cls = .type "tuple" → h'.get? b = some o := fun b o g c => keep b o (fun z => ha o (z ▸ g) c) g
  have hx' := hx.keeps kp
  refine ⟨tuples' true, fun Q E hq => ?_, cmpU (s := { s with heap := h' }) hx' r fun v hv ns T => ?_⟩
  · obtain ⟨fs, k, hl, hi⟩ := TS.firsts_of hd vs hx'
    refine PySem.W.kat_kind (T := Value.type "int") k (by omega) (fun f hf => ?_) rfl hq
    obtain ⟨n, t, rfl⟩ := hi f hf
    exact PySem.W.Looks.of_pure rfl
  · obtain ⟨ms, T2, _⟩ := hx v hv
    rw [T.ints.symm.trans (T2.keeps kp).ints]
    exact hr v hv ms T2
end
section
variable {X : Cx} {pins : List (Addr × Obj)} {σ : St} {H : Hp} {s : Shared}
def rSortV (K : PySem.W.Frag) (d : Nat) (B : Int) : List V → Hp → VK → Prop := fun vs H Q => ∃ (a : Addr) (xs : List V), vs = [V.ref a] ∧ SqL K H a xs ∧ (∀ x ∈ xs, ∃ ns, TupI K H x ns ∧ ns.length = d ∧ TS.Bd B ns) ∧
  ∀ (ys : List V) (p : Addr), ys.Perm xs → ys.Pairwise (fun x y => ∀ n m, TupI K H x n → TupI K H y m → TS.code B n ≤ TS.code B m) → H p = none → Q (.ref p) (upd H p (.lst ys))
theorem cr_sortV {d : Nat} {B : Int} (hd : 1 ≤ d) : CallR X (.builtin "sorted") (rSortV X.K d B) := by
  intro pins s σ H vs us Q I r h
  obtain ⟨a, xs, rfl, hs, hx, q⟩ := h
  obtain ⟨its, rv, hl, hz⟩ := I.list hs
  rw [Vals.ref1 r]
  have hlz : its.length ≤ sizeLine := by rw [← rv.length]; exact hz
  obtain ⟨e1, e2⟩ := bkV_refs rv fun x m => by
    obtain ⟨ns, ⟨t, e, _⟩, _⟩ := hx x m
    exact ⟨t, e⟩
  have ok : TS.TupsOk s.heap d B its := fun v hv => by
    obtain ⟨t, rfl⟩ := e2 v hv
    obtain ⟨ns, ⟨t', e, ht⟩, hn, hb⟩ := hx (.ref t) (by rw [e1]; exact List.mem_map.mpr ⟨_, hv, rfl⟩)
    cases e
    exact ⟨ns, tupI_raw I ht, hn, hb⟩
  refine SrtO.sorted_ord (swoR fun v => TS.code B (TS.intsOf s.heap v)) hl.isList hlz (fun h2 h₁ b hb kk => ?_) fun out h1 h2 => ?_
  · refine sortableU (s := { s with heap := h₁ }) hd (by omega) (ok.keeps fun b o g _ => (kk b o g).2) (fun o g => ?_) _ fun v hv ns T => ?_
    · have z : some o = some (seqObj "list" its.toArray 0) := g.symm.trans hb
      cases z
      intro c
      exact absurd (Value.type.inj c) (by decide)
    · obtain ⟨ms, T2, _⟩ := ok v hv
      have z : ns = ms := T.ints.symm.trans (T2.keeps fun b o g _ => (kk b o g).2).ints
      rw [z]
      show TS.code B (TS.intsOf s.heap v) = _
      rw [T2.ints]
  · obtain ⟨ep, he⟩ := PyProof.Rows.sortedAll_at s.heap its out.toArray
    have pm := h2.perm
    have rf : ∀ u ∈ out, ∃ a, u = Value.ref a := fun u hu => e2 u (pm.mem_iff.mp hu)
    have hp : (out.map bkV).Perm xs := by
      rw [e1]
      exact pm.map bkV
    refine ⟨.ref _, upd H (s.heap.objs.size + 1) (.lst (out.map bkV)), I.laid (t' := s.toks) (fun _ _ => PyProof.Rows.sortedAll_old) (Nat.le_succ _) ⟨by rw [hp.length_eq]; exact hz, out, ep, bkV_vals rf, by simpa using he⟩, rfl, q _ _ hp ?_ (I.hok.fresh (Nat.le_succ _))⟩
    rw [List.pairwise_map]
    refine List.Pairwise.imp (fun {u v} huv n m hn hm => ?_) h1
    have z := of_decide_eq_false huv
    obtain ⟨t, et, ht⟩ := hn
    obtain ⟨t', et', ht'⟩ := hm
    have i1 : TS.intsOf s.heap u = n := by
      rw [bkV_ref et]
      exact (tupI_raw I ht).ints
    have i2 : TS.intsOf s.heap v = m := by
      rw [bkV_ref et']
      exact (tupI_raw I ht').ints
    rw [← i1, ← i2]
    omega
end
end L2
namespace L2
open PySem PySem.Spec PyProof.Rows
theorem sortedIK {X : Cx} {K : PySem.W.Frag} (h : X.K = K) : CallR X (.builtin "sorted") (rSortedI K) := h ▸ cr_sortedI
theorem sorted3K {X : Cx} {K : PySem.W.Frag} (h : X.K = K) : CallR X (.builtin "sorted") (rSortV K 3 2000) := h ▸ cr_sortV (by decide)
end L2
namespace L2
theorem du {n m : Nat} (h : n + 64 < m) : n + 1 < m := by omega
end L2
end
section
set_option maxRecDepth 100000
set_option maxHeartbeats 4000000
namespace K26
open PySem PySem.Spec PyProof.Rows L2
/-- how many of these spans lie in the stretch -/
def cS (a b : Int) (ws : List (Int × Int)) : Nat := (ws.filter fun c => decide (a < c.1) && decide (c.2 ≤ b)).length
theorem cS_le {a b : Int} {ws : List (Int × Int)} : cS a b ws ≤ ws.length := List.length_filter_le _ _
section
variable {P : Program} {w : World} {K : PySem.W.Frag} {mg : Str → Option Value} {base : Heap}
def spSpansIn : Sp := fun vs H Q _ => ∃ l xs ws a b, vs = [.ref l, .int a, .int b] ∧ H l = some (.lst xs) ∧ Paired (PairT H) xs ws ∧ ws.length ≤ 40 ∧ ∀ H', Same H H' → Q (.int (cS a b ws)) H'
theorem ok__law_spans_in (T : Txt w K mg) : Ok P w K mg base CX0 1 "_law_spans_in" ["spans", "a", "b"] spSpansIn := by
  refine Ok.def0 (f__law_spans_in T) (fun _ _ _ _ _ _ us hl => match us, hl with | [_, _, _], _ => rfl) sc__law_spans_in (fun vs H Q E h => ?_) (fun f cdv A outer s H vs Q E hr h => ?_)
  · obtain ⟨l, xs, ws, a, b, rfl, _⟩ := h
    rfl
  · obtain ⟨l, xs, ws, a, b, rfl, h2, h3, hl, k⟩ := h
    refine ⟨_, (pss_one (ps_ret (pe_callB (len_seqK (K := K) rfl) rfl (n_len T) (by decide +kernel) (pa_cons (pe_lc (own := [("span", 3)]) rfl sc__law_spans_in.nd (pi_listK (K := K) rfl (pv 0)) (blkOk_by (N := ["spans", "a", "b", "span"]) (sc := defScope s__law_spans_in) (by decide +kernel)) (fun _ _ _ _ _ => (pg_name (i := 3) sc__law_spans_in.nd rfl (by first | exact Or.inl rfl | exact Or.inr rfl))) (fun _ _ _ _ _ => pts_one (PW.pt (pw_and (pt_cmpR op_lt (pv 1) (pe_ix (ix_seqK (K := K) rfl) (pv 3) pe_int (fun _ _ => rfl)) (nomark _)) (pw_and1 (pt_cmpR op_le (pe_ix (ix_seqK (K := K) rfl) (pv 3) pe_int (fun _ _ => rfl)) (pv 2) (nomark _)))))) (fun _ _ _ _ _ => (pv 3))) pa_nil)))), ?_⟩
    have hxl : xs.length ≤ 40 := by rw [Paired.length h3]; exact hl
    refine ⟨_, rfl, l, rfl, ⟨_, SqL.of h2⟩, fun D hD => lc_acc (K := K) (a := l) (xs := xs) hD (SqL.of h2) (by omega) (fun j acc _ => acc.length = cS a b (ws.take j)) (fun _ _ => rfl) ?_ ?_⟩
    · rintro j x acc H' N N0 hx s' hacc hI hN hN0
      obtain ⟨c, hc, hr⟩ := paired_get h3 hx
      refine ⟨rfl, ?_⟩
      refine ⟨_, rfl, _, rfl, (hr.same s').i0 ⟨_, _, rfl, rfl, _, rfl, ?_⟩⟩
      cases q1 : decide (a < c.1) with
      | false => exact iteF (hN0 _ (Same.refl _) (by unfold cS; rw [flt_take hc false (by rw [q1]; rfl)]; exact hI))
      | true =>
        refine ⟨_, rfl, (hr.same s').i1 ⟨_, rfl, _, _, rfl, rfl, _, rfl, ?_⟩⟩
        cases q2 : decide (c.2 ≤ b) with
        | false => exact hN0 _ (Same.refl _) (by unfold cS; rw [flt_take hc false (by rw [q1, q2]; rfl)]; exact hI)
        | true => exact ⟨_, rfl, hN _ _ (Same.refl _) fun _ _ _ => by unfold cS; rw [flt_take hc true (by rw [q1, q2]; rfl), List.length_append, hI]; rfl⟩
    · rintro acc H' s' hacc _ hI
      rw [Paired.length h3, List.take_length] at hI
      refine ⟨D, acc, rfl, .inl (SqL.of hacc), ?_⟩
      rw [hI]
      exact k _ s'
/-- the table of these spans -/
def tabS (ws : List (Int × Int)) (a b : Nat) : Int := (cS (a : Int) (b : Int) ws : Nat)
def spSpanTable : Sp := fun vs H Q _ => ∃ (T : Nat) (l : Addr) (xs : List V) (ws : List (Int × Int)), vs = [.int T, .ref l] ∧ H l = some (.lst xs) ∧ Paired (PairT H) xs ws ∧ ws.length ≤ 40 ∧ T ≤ 24 ∧ ∀ p H', H p = none → Same H H' → H' p = some (.dT (tabM (tabS ws) T)) → Q (.ref p) H'
theorem ok__law_span_table (T : Txt w K mg) : Ok P w K mg base CX0 2 "_law_span_table" ["days", "spans"] spSpanTable := by
  refine Ok.def0 (f__law_span_table T) (fun _ _ _ _ _ _ us hl => match us, hl with | [_, _], _ => rfl) sc__law_span_table (fun vs H Q E h => ?_) (fun f cdv A outer s H vs Q E hr h => ?_)
  · obtain ⟨TT, l, xs, ws, rfl, _⟩ := h
    rfl
  · obtain ⟨TT, l, xs, ws, rfl, h2, h3, hl, hT, k⟩ := h
    refine ⟨_, (pss_cons (ps_set (i := 2) sc__law_span_table.nd rfl (by first | exact Or.inl rfl | exact Or.inr rfl) pe_dnewT)
      (pss_cons (ps_for PassesOwn.never rfl (pi_range1 rfl (n_range T) (pa_cons (pe_op op_add (pv 0) pe_int) pa_nil)) (pg_name (i := 3) sc__law_span_table.nd rfl (by first | exact Or.inl rfl | exact Or.inr rfl))
        (pss_one (ps_for PassesOwn.never rfl (pi_range2 rfl (n_range T) (pa_cons (pv 3) (pa_cons (pe_op op_add (pv 0) pe_int) pa_nil))) (pg_name (i := 4) sc__law_span_table.nd rfl (by first | exact Or.inl rfl | exact Or.inr rfl))
        (pss_one (ps_asg (pe_ok (ok__law_spans_in T) (hr.mono (by first | decide | omega)) rfl pass0 (pa_cons (pv 1) (pa_cons (pv 3) (pa_cons (pv 4) pa_nil)))) (pg_sub (pv 2) (pe_tup (pa_cons (pv 3) (pa_cons (pv 4) pa_nil))) (set_dict (du hr.units))))))))
      (pss_one (ps_ret (pv 2))))), ?_⟩
    refine fun tb htb => ?_
    obtain ⟨s1, g1⟩ := new2 (.dT []) htb
    refine ⟨_, rfl, _, _, rfl, rfl, _, rfl, by omega, by omega, for_upto (lo := 0) (L := TT + 1) (by omega) (fun i σ H' => ∃ v3 v4, σ = [some (.int TT), some (.ref l), some (.ref tb), v3, v4] ∧ Same H H' ∧ H' tb = some (.dT (tabL (tabS ws) TT i))) ⟨_, _, rfl, s1, g1⟩ ?_ ?_⟩
    · rintro i σ H1 hi ⟨v3, v4, rfl, e1, d1⟩
      have z1 : (0 : Int) + (i : Int) = (i : Int) := by omega
      rw [z1]
      refine gnE ?_
      refine ⟨_, rfl, _, rfl, _, _, rfl, rfl, _, _, rfl, by omega, for_upto (lo := (i : Int)) (L := TT + 1 - i) (by omega) (fun j σ H' => ∃ v4, σ = [some (.int TT), some (.ref l), some (.ref tb), some (.int (i : Int)), v4] ∧ Same H H' ∧ H' tb = some (.dT (tabL (tabS ws) TT i ++ rowT (tabS ws) i j))) ⟨_, rfl, e1, by rw [d1]; unfold rowT; simp⟩ ?_ ?_⟩
      · rintro j σ H2 hj ⟨v4, rfl, e2, d2⟩
        have z2 : (i : Int) + (j : Int) = ((i + j : Nat) : Int) := by omega
        rw [z2]
        refine gnE ?_
        refine ⟨_, rfl, _, rfl, _, rfl, l, xs, ws, _, _, rfl, e2 _ _ h2, Paired.mapP h3 fun _ _ z => z.same e2, hl, fun H3 s3 => ?_⟩
        refine ⟨_, rfl, _, rfl, _, rfl, (by show 2 ≤ sizeLine; decide), fun t ht => ?_⟩
        obtain ⟨s4, g4⟩ := new2 (.tup [.int (i : Int), .int ((i + j : Nat) : Int)]) ht
        have g4' : upd H3 t (.tup [.int (i : Int), .int ((i + j : Nat) : Int)]) t = some (.tup ((key2 i (i + j)).map kV)) := by
          rw [g4]
          rfl
        refine ⟨tb, _, rfl, DPut.t (s4 _ _ (s3 _ _ d2)) g4' (line_lt ?_), ?_⟩
        · have := tabL_len (M := tabS ws) hT i
          rw [List.length_append, rowT_len]
          omega
        · refine ⟨_, rfl, same_mut ((e2.trans s3).trans s4) htb, ?_⟩
          rw [upd_same, tabL_put, rowT_succ, List.append_assoc]
          rfl
      · rintro σ H2 ⟨v4, rfl, e2, d2⟩
        refine ⟨_, _, rfl, e2, ?_⟩
        rw [tabL_succ]
        exact d2
    · rintro σ H1 ⟨v3, v4, rfl, e1, d1⟩
      exact ⟨_, rfl, k tb H1 htb e1 d1⟩
end
end K26
end
section
set_option maxRecDepth 100000
set_option maxHeartbeats 4000000
namespace K26
open PySem PySem.Spec PyProof.Rows L2
def eN (rs : List Q4) (a y : Int) : Nat := (rs.filter fun r => decide (a < r.1) && decide (r.2.1 = y)).length
def cN (rs : List Q4) (a b : Int) : Nat := (rs.filter fun r => decide (a < r.1) && decide (r.2.1 ≤ b)).length
theorem cN_step (a b : Int) : ∀ rs : List Q4, cN rs a (b + 1) = cN rs a b + eN rs a (b + 1)
  | [] => rfl
  | r :: rs => by
    have ih := cN_step a b rs
    unfold cN eN at ih ⊢
    rw [List.filter_cons, List.filter_cons, List.filter_cons]
    by_cases h1 : a < r.1
    · rw [decide_eq_true h1]
      by_cases h2 : r.2.1 ≤ b
      · rw [decide_eq_true h2, decide_eq_true (p := r.2.1 ≤ b + 1) (by omega), decide_eq_false (p := r.2.1 = b + 1) (by omega)]
        simp only [Bool.and_self, Bool.and_true, Bool.and_false, if_true, Bool.false_eq_true, if_false, List.length_cons]
        omega
      · by_cases h3 : r.2.1 = b + 1
        · rw [decide_eq_false h2, decide_eq_true (p := r.2.1 ≤ b + 1) (by omega), decide_eq_true h3]
          simp only [Bool.and_self, Bool.and_true, Bool.and_false, if_true, Bool.false_eq_true, if_false, List.length_cons]
          omega
        · rw [decide_eq_false h2, decide_eq_false (p := r.2.1 ≤ b + 1) (by omega), decide_eq_false h3]
          simp only [Bool.and_self, Bool.and_true, Bool.and_false, if_true, Bool.false_eq_true, if_false, List.length_cons]
          omega
    · rw [decide_eq_false h1]
      simp only [Bool.false_and, Bool.false_eq_true, if_false]
      exact ih
theorem cN_none {a b : Int} (hb : b ≤ a) : ∀ {rs : List Q4}, (∀ r ∈ rs, GoodR r) → cN rs a b = 0
  | [], _ => rfl
  | r :: rs, h => by
    have hr := h r List.mem_cons_self
    unfold GoodR at hr
    have ih := cN_none hb (rs := rs) fun r hr => h r (List.mem_cons_of_mem _ hr)
    unfold cN at ih ⊢
    rw [List.filter_cons]
    have : (decide (a < r.1) && decide (r.2.1 ≤ b)) = false := by
      by_cases h1 : a < r.1
      · rw [decide_eq_false (p := r.2.1 ≤ b) (by omega)]
        simp
      · rw [decide_eq_false h1]
        rfl
    rw [this]
    exact ih
def tabR (rs : List Q4) (a b : Nat) : Int := (cN rs (a : Int) (b : Int) : Nat)
theorem eN_le {rs : List Q4} {a b : Int} : eN rs a b ≤ rs.length := List.length_filter_le _ _
theorem cN_le {rs : List Q4} {a b : Int} : cN rs a b ≤ rs.length := List.length_filter_le _ _
section
variable {P : Program} {w : World} {K : PySem.W.Frag} {mg : Str → Option Value} {base : Heap}
def spSpanCounts (K : PySem.W.Frag) : Sp := fun vs H Q _ => ∃ (T : Nat) (p : Addr) (rs : List Q4), vs = [.ref p] ∧ AlmAt K H p T rs ∧ rs.length ≤ 40 ∧ T ≤ 24 ∧ (∀ r ∈ rs, GoodR r) ∧ ∀ tb H', H tb = none → Same H H' → H' tb = some (.dT (tabM (tabR rs) T)) → Q (.ref tb) H'
theorem ok_span_counts (T : Txt w K mg) : Ok P w K mg base CX0 2 "span_counts" ["almanac"] (spSpanCounts K) := by
  refine Ok.def0 (f_span_counts T) (fun _ _ _ _ _ _ us hl => match us, hl with | [_], _ => rfl) sc_span_counts (fun vs H Q E h => ?_) (fun f cdv A outer s H vs Q E hr h => ?_)
  · obtain ⟨TT, p, rs, rfl, _⟩ := h
    rfl
  · obtain ⟨TT, p, rs, rfl, hA, hl, hT, hg, k⟩ := h
    refine ⟨_, (pss_cons (ps_set (i := 1) sc_span_counts.nd rfl (by first | exact Or.inl rfl | exact Or.inr rfl) (pe_okM0 (okm_Almanac_days T) (cl_Almanac T) (pv 0) (hr.mono (by first | decide | omega)) pass0))
      (pss_cons (ps_set (i := 2) sc_span_counts.nd rfl (by first | exact Or.inl rfl | exact Or.inr rfl) (pe_okM0 (okm_Almanac_rains T) (cl_Almanac T) (pv 0) (hr.mono (by first | decide | omega)) pass0))
      (pss_cons (ps_set (i := 3) sc_span_counts.nd rfl (by first | exact Or.inl rfl | exact Or.inr rfl) pe_dnewT)
      (pss_cons (ps_for PassesOwn.never rfl (pi_range1 rfl (n_range T) (pa_cons (pe_op op_add (pv 1) pe_int) pa_nil)) (pg_name (i := 4) sc_span_counts.nd rfl (by first | exact Or.inl rfl | exact Or.inr rfl))
        (pss_cons (ps_set (i := 5) sc_span_counts.nd rfl (by first | exact Or.inl rfl | exact Or.inr rfl) (pe_op op_rep (pe_lst (pa_cons pe_int pa_nil)) (pe_op op_add (pv 1) pe_int)))
      (pss_cons (ps_for PassesOwn.never rfl (pi_listK (K := K) rfl (pv 2)) (pg_name (i := 6) sc_span_counts.nd rfl (by first | exact Or.inl rfl | exact Or.inr rfl))
        (pss_one (ps_if (PW.pt (pw_and (pt_cmpR op_gt (pe_ix (ix_seqK (K := K) rfl) (pv 6) pe_int (fun _ _ => rfl)) (pv 4) (nomark _)) (pw_and1 (pt_cmpR op_le (pe_ix (ix_seqK (K := K) rfl) (pv 6) pe_int (fun _ _ => rfl)) (pv 1) (nomark _))))) (pss_one (ps_augS (pv 5) (pe_ix (ix_seqK (K := K) rfl) (pv 6) pe_int (fun _ _ => rfl)) (get_listK (K := K) rfl) pe_int ip_add set_list)) pss_nil)))
      (pss_cons (ps_set (i := 7) sc_span_counts.nd rfl (by first | exact Or.inl rfl | exact Or.inr rfl) pe_int)
      (pss_one (ps_for PassesOwn.never rfl (pi_range2 rfl (n_range T) (pa_cons (pv 4) (pa_cons (pe_op op_add (pv 1) pe_int) pa_nil))) (pg_name (i := 8) sc_span_counts.nd rfl (by first | exact Or.inl rfl | exact Or.inr rfl))
        (pss_cons (ps_aug (i := 7) sc_span_counts.nd rfl (by first | exact Or.inl rfl | exact Or.inr rfl) (pe_ix (ix_listK (K := K) rfl) (pv 5) (pv 8) (fun _ _ => rfl)) ip_add)
      (pss_one (ps_asg (pv 7) (pg_sub (pv 3) (pe_tup (pa_cons (pv 4) (pa_cons (pv 8) pa_nil))) (set_dict (du hr.units))))))))))))
      (pss_one (ps_ret (pv 3))))))), ?_⟩
    obtain ⟨dx, l0, xs0, h1, h2, h3⟩ := id hA
    refine ⟨_, rfl, p, dx, _, rfl, h1, af_no (by decide +kernel) (by decide +kernel), p, TT, rs, rfl, hA, ?_⟩
    refine ⟨_, rfl, p, dx, _, rfl, h1, af_no (by decide +kernel) (by decide +kernel), p, TT, rs, rfl, hA, fun l xs H1 hl0 s1 hl1 hP => ?_⟩
    have hxl : xs.length ≤ 40 := by rw [Paired.length hP]; exact hl
    refine fun tb htb => ?_
    obtain ⟨s2, g2⟩ := new2 (.dT []) htb
    have htb0 : H tb = none := none_of s1 htb
    refine ⟨_, rfl, _, _, rfl, rfl, _, rfl, by omega, by omega, for_upto (lo := 0) (L := TT + 1) (by omega) (fun i σ H' => ∃ v4 v5 v6 v7 v8, σ = [some (.ref p), some (.int TT), some (.ref l), some (.ref tb), v4, v5, v6, v7, v8] ∧ Same H1 H' ∧ H' tb = some (.dT (tabL (tabR rs) TT i))) ⟨_, _, _, _, _, rfl, s2, g2⟩ ?_ ?_⟩
    · rintro i σ H2 hi ⟨v4, v5, v6, v7, v8, rfl, e2, d2⟩
      have z1 : (0 : Int) + (i : Int) = (i : Int) := by omega
      rw [z1]
      refine gnE ?_
      refine ⟨(by show 1 ≤ sizeLine; decide), fun q hq => ⟨_, rfl, _, _, rfl, rfl, q, _, _, rfl, rfl, upd_same, by omega, by omega, line_of (by show 1 * _ ≤ _; omega), fun en hen => ?_⟩⟩
      obtain ⟨s3, g3⟩ := new2 (.lst [V.int 0]) hq
      obtain ⟨s4, g4⟩ := new2 (.lst (List.replicate ((TT : Int) + 1).toNat [V.int 0]).flatten) hen
      have e0 : ((TT : Int) + 1).toNat = TT + 1 := by omega
      rw [rowV_rep, e0] at s4 g4 ⊢
      have s34 := s3.trans s4
      generalize upd (upd H2 q (.lst [V.int 0])) en (.lst (rowV (TT + 1) fun _ => 0)) = H4 at s4 g4 s34 ⊢
      have hen2 : H2 en = none := none_of s3 hen
      have hen1 : H1 en = none := none_of e2 hen2
      have ne : tb ≠ en := fun z => by rw [z, hen2] at d2; cases d2
      refine ⟨_, rfl, l, rfl, ⟨_, SqL.of ((e2.trans s34) _ _ hl1)⟩, for_list (K := K) (a := l) (xs := xs) (fun m σ H' => ∃ v6 v7 v8, σ = [some (.ref p), some (.int TT), some (.ref l), some (.ref tb), some (.int (i : Int)), some (.ref en), v6, v7, v8] ∧ Same H1 H' ∧ H' tb = some (.dT (tabL (tabR rs) TT i)) ∧ H' en = some (.lst (rowV (TT + 1) fun y => (eN (rs.take m) (i : Int) (y : Int) : Nat)))) ⟨_, _, _, rfl, e2.trans s34, s34 _ _ d2, g4⟩ (fun _ _ _ _ ⟨_, _, _, _, z, _⟩ => SqL.of (z _ _ hl1)) ?_ ?_⟩
      · rintro m x σ H5 hx ⟨v6, v7, v8, rfl, e5, d5, g5⟩
        obtain ⟨r, hr', hq5⟩ := paired_get hP hx
        have hgr := hg r (List.mem_of_getElem? hr')
        unfold GoodR at hgr
        have hq5 := hq5.same e5
        have st : ∀ y : Nat, eN (rs.take (m + 1)) (i : Int) (y : Int) = eN (rs.take m) (i : Int) (y : Int) + if (decide ((i : Int) < r.1) && decide (r.2.1 = (y : Int))) = true then 1 else 0 := fun y => flt_take hr' _ rfl
        refine ⟨_, rfl, hq5.ix (i := 0) rfl ⟨_, rfl, _, _, rfl, rfl, _, rfl, ?_⟩⟩
        cases t1 : decide ((i : Int) < r.1) with
        | false =>
          refine ⟨_, _, _, rfl, e5, d5, ?_⟩
          rw [g5]
          congr 2
          refine rowV_congr fun y _ => ?_
          rw [st, t1]
          rfl
        | true =>
          refine ⟨_, rfl, hq5.ix (i := 1) rfl ⟨_, rfl, _, _, rfl, rfl, _, rfl, ?_⟩⟩
          cases t2 : decide (r.2.1 ≤ (TT : Int)) with
          | false =>
            have t2 := of_decide_eq_false t2
            refine ⟨_, _, _, rfl, e5, d5, ?_⟩
            rw [g5]
            congr 2
            refine rowV_congr fun y hy => ?_
            rw [st, decide_eq_false (p := r.2.1 = (y : Int)) (by omega)]
            simp
          | true =>
            have t2 := of_decide_eq_true t2
            obtain ⟨y0, hy0⟩ : ∃ y0 : Nat, r.2.1 = (y0 : Int) := ⟨r.2.1.toNat, by omega⟩
            refine ⟨_, rfl, _, rfl, hq5.ix (i := 1) rfl ⟨en, _, _, _, rfl, rfl, SqL.of g5, at_of (j := y0) hy0 (rowV_get (by omega)), _, _, rfl, rfl, en, _, _, y0, rfl, rfl, g5, ?_, ?_⟩⟩
            · rw [rowV_len, hy0]
              exact ix_nat (by omega)
            · refine ⟨_, _, _, rfl, same_mut e5 hen1, by rw [upd_ne ne]; exact d5, ?_⟩
              rw [upd_same, rowV_set]
              congr 2
              refine rowV_congr fun y _ => ?_
              rw [st, t1, hy0]
              by_cases c : y = y0
              · rw [if_pos c, c]
                simp
              · rw [if_neg c, decide_eq_false (p := (y0 : Int) = (y : Int)) (by omega)]
                simp
      · rintro σ H5 ⟨v6, v7, v8, rfl, e5, d5, g5⟩
        rw [Paired.length hP, List.take_length] at g5
        refine ⟨_, rfl, _, rfl, _, _, rfl, rfl, _, _, rfl, by omega, for_upto (lo := (i : Int)) (L := TT + 1 - i) (by omega) (fun j σ H' => ∃ v8, σ = [some (.ref p), some (.int TT), some (.ref l), some (.ref tb), some (.int (i : Int)), some (.ref en), v6, some (.int (cN rs (i : Int) ((i : Int) + (j : Int) - 1) : Nat)), v8] ∧ Same H1 H' ∧ H' tb = some (.dT (tabL (tabR rs) TT i ++ rowT (tabR rs) i j)) ∧ H' en = some (.lst (rowV (TT + 1) fun y => (eN rs (i : Int) (y : Int) : Nat)))) ⟨v8, ?_, e5, ?_, g5⟩ ?_ ?_⟩
        · rw [cN_none (by omega) hg]
          rfl
        · rw [d5]
          unfold rowT
          simp
        · rintro j σ H6 hj ⟨v8, rfl, e6, d6, g6⟩
          have z2 : (i : Int) + (j : Int) = ((i + j : Nat) : Int) := by omega
          have cl := cN_le (rs := rs) (a := (i : Int)) (b := (i : Int) + (j : Int) - 1)
          have el := eN_le (rs := rs) (a := (i : Int)) (b := ((i + j : Nat) : Int))
          have cs : (cN rs (i : Int) ((i : Int) + (j : Int) - 1) : Int) + (eN rs (i : Int) ((i + j : Nat) : Int) : Int) = (cN rs (i : Int) ((i + j : Nat) : Int) : Int) := by
            have := cN_step (i : Int) ((i : Int) + (j : Int) - 1) rs
            rw [show (i : Int) + (j : Int) - 1 + 1 = ((i + j : Nat) : Int) by omega] at this
            omega
          rw [z2] at cs
          rw [z2]
          refine gnE ?_
          refine ⟨_, rfl, _, rfl, _, rfl, en, _, _, _, rfl, rfl, SqL.of g6, at_of (j := i + j) rfl (rowV_get (by omega)), _, _, rfl, rfl, ?_⟩
          refine ⟨_, rfl, _, rfl, _, rfl, _, rfl, (by show 2 ≤ sizeLine; decide), fun t ht => ?_⟩
          obtain ⟨s7, g7⟩ := new2 (.tup [.int (i : Int), .int ((i + j : Nat) : Int)]) ht
          have g7' : upd H6 t (.tup [.int (i : Int), .int ((i + j : Nat) : Int)]) t = some (.tup ((key2 i (i + j)).map kV)) := by
            rw [g7]
            rfl
          refine ⟨tb, _, rfl, DPut.t (s7 _ _ d6) g7' (line_lt ?_), ?_⟩
          · have := tabL_len (M := tabR rs) hT i
            rw [List.length_append, rowT_len]
            omega
          · refine ⟨some (.int ((i + j : Nat) : Int)), ?_, same_mut (e6.trans s7) htb, ?_, ?_⟩
            · rw [show (i : Int) + ((j + 1 : Nat) : Int) - 1 = ((i + j : Nat) : Int) by omega, ← cs]
              rfl
            · rw [upd_same, tabL_put, rowT_succ, List.append_assoc, show tabR rs i (i + j) = _ from cs.symm]
            · rw [upd_ne ne.symm]
              exact s7 _ _ g6
        · rintro σ H6 ⟨v8, rfl, e6, d6, g6⟩
          refine ⟨_, _, _, _, _, rfl, e6, ?_⟩
          rw [tabL_succ]
          exact d6
    · rintro σ H2 ⟨v4, v5, v6, v7, v8, rfl, e2, d2⟩
      exact ⟨_, rfl, k tb H2 htb0 (s1.trans e2) d2⟩
end
end K26
end
section
set_option maxRecDepth 100000
set_option maxHeartbeats 4000000
namespace L2
open PySem PySem.Spec PyProof.Rows
/-! ### what an expression comes to, at every heap behind this one -/
def Ev (σ : St) (H0 : Hp) (t : TE) (v : V) : Prop := ∀ (H' : Hp) (R : VK), Same H0 H' → (∀ H2, Same H' H2 → R v H2) → t σ H' R
def EvT (σ : St) (H0 : Hp) (t : TT) (b : Bool) : Prop := ∀ (H' : Hp) (R : Bool → Hp → Prop), Same H0 H' → (∀ H2, Same H' H2 → R b H2) → t σ H' R
variable {σ : St} {H0 : Hp}
theorem Ev.mono {H1 : Hp} {t : TE} {v : V} (h : Ev σ H0 t v) (e : Same H0 H1) : Ev σ H1 t v := fun H' R s k => h H' R (e.trans s) k
theorem Ev.var {i : Nat} {v : V} (h : σ[i]? = some (some v)) : Ev σ H0 (tVar i) v := fun H' R _ k => ⟨v, h, k H' (Same.refl _)⟩
theorem Ev.c {v : V} : Ev σ H0 (tC v) v := fun H' R _ k => k H' (Same.refl _)
theorem Ev.i2 {f : Int → Int → V} {t1 t2 : TE} {x y : Int} (h1 : Ev σ H0 t1 (.int x)) (h2 : Ev σ H0 t2 (.int y)) : Ev σ H0 (tOp (rI0 f) t1 t2) (f x y) := fun H' R s k =>
  h1 H' _ s fun H1 s1 => h2 H1 _ (s.trans s1) fun H2 s2 => ⟨x, y, rfl, rfl, k H2 (s1.trans s2)⟩
theorem Ev.eq {t1 t2 : TE} {x y : Int} (h1 : Ev σ H0 t1 (.int x)) (h2 : Ev σ H0 t2 (.int y)) : Ev σ H0 (tOp rEq t1 t2) (.bl (decide (x = y))) := fun H' R s k =>
  h1 H' _ s fun H1 s1 => h2 H1 _ (s.trans s1) fun H2 s2 => ⟨rfl, by
    have : decide (V.int x = V.int y) = decide (x = y) := by
      rw [decide_eq_decide]
      exact ⟨fun z => V.int.inj z, fun z => by rw [z]⟩
    rw [this]
    exact k H2 (s1.trans s2)⟩
theorem Ev.ne {t1 t2 : TE} {x y : Int} (h1 : Ev σ H0 t1 (.int x)) (h2 : Ev σ H0 t2 (.int y)) : Ev σ H0 (tOp rNe t1 t2) (.bl (!decide (x = y))) := fun H' R s k =>
  h1 H' _ s fun H1 s1 => h2 H1 _ (s.trans s1) fun H2 s2 => ⟨rfl, by
    have : decide (V.int x = V.int y) = decide (x = y) := by
      rw [decide_eq_decide]
      exact ⟨fun z => V.int.inj z, fun z => by rw [z]⟩
    rw [this]
    exact k H2 (s1.trans s2)⟩
theorem tabM_val {M : Nat → Nat → Int} {T a b : Nat} (h1 : a ≤ b) (h2 : b ≤ T) : valV (tabM M T) (key2 a b) = some (.int (M a b)) := by
  refine valV_mem (tabL_pw (M := M) (T := T) (T + 1)) (key2 a b, V.int (M a b)) ?_
  unfold tabL
  refine List.mem_flatMap.mpr ⟨a, List.mem_range.mpr (by omega), ?_⟩
  unfold rowT
  exact List.mem_map.mpr ⟨b - a, List.mem_range.mpr (by omega), by rw [show a + (b - a) = b by omega]⟩
theorem Ev.dget {t1 t2 : TE} {M : Nat → Nat → Int} {T a b i : Nat} {x y : Int} {tb : Addr} (hd : H0 tb = some (.dT (tabM M T))) (hs : σ[i]? = some (some (.ref tb))) (h1 : Ev σ H0 t1 (.int x)) (h2 : Ev σ H0 t2 (.int y)) (hx : x = (a : Int)) (hy : y = (b : Int)) (hab : a ≤ b) (hb : b ≤ T) : Ev σ H0 (tDGet (tVar i) (tTup (tCons t1 (tCons t2 tNil)))) (.int (M a b)) := fun H' R s k => by
  subst hx hy
  refine ⟨_, hs, h1 H' _ s fun H1 s1 => h2 H1 _ (s.trans s1) fun H2 s2 => ⟨(by show 2 ≤ sizeLine; decide), fun p hp => ?_⟩⟩
  obtain ⟨s3, g3⟩ := new2 (.tup [.int (a : Int), .int (b : Int)]) hp
  have g3' : upd H2 p (.tup [.int (a : Int), .int (b : Int)]) p = some (.tup ((key2 a b).map kV)) := by rw [g3]; rfl
  have e := DGet.t (k := key2 a b) (s3 _ _ (s2 _ _ (s1 _ _ (s _ _ hd)))) g3'
  rw [tabM_val hab hb] at e
  exact ⟨tb, _, rfl, e, k _ (s1.trans (s2.trans s3))⟩
theorem EvT.test {t : TE} {b : Bool} (h : Ev σ H0 t (.bl b)) : EvT σ H0 (tTest t) b := fun H' R s k => h H' _ s fun H1 s1 => ⟨b, rfl, k H1 s1⟩
theorem EvT.or {p q : TT} {b1 b2 : Bool} (hp : EvT σ H0 p b1) (hq : b1 = false → EvT σ H0 q b2) : EvT σ H0 (tOr p q) (b1 || b2) := fun H' R s k =>
  hp H' _ s fun H1 s1 => by
    cases b1 with
    | true => exact k H1 s1
    | false => exact hq rfl H1 _ (s.trans s1) fun H2 s2 => k H2 (s1.trans s2)
theorem EvT.and {p q : TT} {b1 b2 : Bool} (hp : EvT σ H0 p b1) (hq : b1 = true → EvT σ H0 q b2) : EvT σ H0 (tAnd p q) (b1 && b2) := fun H' R s k =>
  hp H' _ s fun H1 s1 => by
    cases b1 with
    | false => exact k H1 s1
    | true => exact hq rfl H1 _ (s.trans s1) fun H2 s2 => k H2 (s1.trans s2)
theorem Ev.or {p q : TE} {b1 b2 : Bool} (hp : Ev σ H0 p (.bl b1)) (hq : b1 = false → Ev σ H0 q (.bl b2)) : Ev σ H0 (tOrV p q) (.bl (b1 || b2)) := fun H' R s k =>
  hp H' _ s fun H1 s1 => ⟨b1, rfl, by
    cases b1 with
    | true => exact k H1 s1
    | false => exact hq rfl H1 _ (s.trans s1) fun H2 s2 => k H2 (s1.trans s2)⟩
theorem Ev.run {t : TE} {v : V} {R : VK} (h : Ev σ H0 t v) (k : ∀ H2, Same H0 H2 → R v H2) : t σ H0 R := h H0 R (Same.refl _) k
theorem EvT.run {t : TT} {b : Bool} {R : Bool → Hp → Prop} (h : EvT σ H0 t b) (k : ∀ H2, Same H0 H2 → R b H2) : t σ H0 R := h H0 R (Same.refl _) k
theorem EvT.ifs {c : TT} {t u : TS} {D : Ends} {b : Bool} (h : EvT σ H0 c b) (k : ∀ H2, Same H0 H2 → if b = true then t D σ H2 else u D σ H2) : tIfS c t u D σ H0 := h H0 _ (Same.refl _) k
theorem Ev.asg {t : TE} {i : Nat} {D : Ends} {v : V} (h : Ev σ H0 t v) (k : ∀ H2, Same H0 H2 → D.nx (σ.set i (some v)) H2) : tAsg t (gName i) D σ H0 := h H0 _ (Same.refl _) k
theorem Ev.seq {t : TE} {i : Nat} {u : TS} {D : Ends} {v : V} (h : Ev σ H0 t v) (k : ∀ H2, Same H0 H2 → u D (σ.set i (some v)) H2) : tSeq (tAsg t (gName i)) u D σ H0 := h H0 _ (Same.refl _) k
theorem EvT.b {t : TE} {b : Bool} (h : Ev σ H0 t (.bl b)) : EvT σ H0 (tB t) b := fun H' R s k => h H' _ s fun H1 s1 => ⟨b, rfl, k H1 s1⟩
section
variable {K : PySem.W.Frag} {a D : Addr} {xs : List V} {g : TG} {tt : TT} {te : TE} {vs : List Nat} {σ : St} {H1 : Hp} {Q : Hp → Prop}
theorem lc_accT (hD : H1 D = none) (hS : SqT K H1 a xs) (hz : xs.length < 100000) (Acc : Nat → List V → Hp → Prop) (h0 : ∀ H', Same H1 H' → Acc 0 [] H')
    (hs : ∀ i x acc H' (N : V → Hp → Prop) (N0 : Hp → Prop), xs[i]? = some x → Same H1 H' → H' D = some (.lst acc) → Acc i acc H' →
      (∀ y H4, Same H' H4 → (∀ H5, But D H4 H5 → H5 D = some (.lst (acc ++ [y])) → Acc (i + 1) (acc ++ [y]) H5) → N y H4) → (∀ H3, Same H' H3 → Acc (i + 1) acc H3 → N0 H3) →
      g x (wipe σ vs) H' fun σ2 H2 => wipe σ2 vs = wipe σ vs ∧ tt σ2 H2 fun b H3 => if b = true then te σ2 H3 N else N0 H3)
    (hd : ∀ acc H', Same H1 H' → H' D = some (.lst acc) → acc.length ≤ xs.length → Acc xs.length acc H' → Q H') :
    ∃ W : Nat → Nat → Hp → Prop, (∃ m, W 0 m (upd H1 D (.lst []))) ∧ ∀ i m H, W i m H →
      ((Itt K a).stop i H ∧ Q H) ∨ ((Itt K a).go i H ∧ ∃ Nx : Hp → Prop, (∀ H', Nx H' → ∃ m', m' < m ∧ W (i + 1) m' H') ∧ ∀ x H', (Itt K a).yld i H x H' → g x (wipe σ vs) H' fun σ2 H2 => wipe σ2 vs = wipe σ vs ∧ tt σ2 H2 fun b H3 =>
        if b = true then te σ2 H3 fun y H4 => ∃ acc, H4 D = some (.lst acc) ∧ acc.length < sizeLine ∧ Nx (upd H4 D (.lst (acc ++ [y]))) else Nx H3) := by
  refine lc_tup (K := K) (a := a) (xs := xs) (fun i H' => Same H1 H' ∧ ∃ acc, H' D = some (.lst acc) ∧ acc.length ≤ i ∧ Acc i acc H') ⟨same_new hD, [], upd_same, Nat.le_refl _, h0 _ (same_new hD)⟩ (fun i H' _ h => h.1.tup hS) ?_ ?_
  · rintro i x H' hx ⟨e, acc, hacc, hl, ha⟩
    have hi : i < xs.length := (List.getElem?_eq_some_iff.mp hx).1
    refine hs i x acc H' _ _ hx e hacc ha (fun y H4 s4 a4 => ?_) (fun H3 s3 a3 => ?_)
    · exact ⟨acc, s4 _ _ hacc, line_lt (by omega), same_mut (e.trans s4) hD, acc ++ [y], upd_same, by rw [List.length_append]; exact Nat.succ_le_succ hl, a4 _ (fun b o hb n => by rw [upd_ne n]; exact hb) upd_same⟩
    · exact ⟨e.trans s3, acc, s3 _ _ hacc, Nat.le_succ_of_le hl, a3⟩
  · rintro H' ⟨e, acc, hacc, hl, ha⟩
    exact hd acc H' e hacc hl ha
end
end L2
end
section
set_option maxRecDepth 100000
set_option maxHeartbeats 4000000
namespace K26
open PySem PySem.Spec PyProof.Rows L2
/-- whether a stretch is a key one, by a table -/
def keyB (M : Nat → Nat → Int) (T : Nat) (c : Int × Int) : Bool := (decide (c.1 = 0) || decide (M c.1.toNat c.2.toNat < M (c.1.toNat - 1) c.2.toNat)) && (decide (c.2 = (T : Int)) || decide (M c.1.toNat c.2.toNat < M c.1.toNat (c.2.toNat + 1)))
def keysL (M : Nat → Nat → Int) (T : Nat) : List (Int × Int) := (strL T).filter (keyB M T)
theorem keyB_nat {M : Nat → Nat → Int} {T a b : Nat} : keyB M T ((a : Int), (b : Int)) = ((decide ((a : Int) = 0) || decide (M a b < M (a - 1) b)) && (decide ((b : Int) = (T : Int)) || decide (M a b < M a (b + 1)))) := rfl
theorem keysL_le {M : Nat → Nat → Int} {T : Nat} (hT : T ≤ 24) : (keysL M T).length ≤ 576 := by
  have := List.length_filter_le (keyB M T) (strL T)
  have := strL_len T hT
  unfold keysL
  omega
theorem flt_take2 {α : Type} {p : α → Bool} {l : List α} {i : Nat} {c : α} (h : l[i]? = some c) (b : Bool) (hb : p c = b) : (l.take (i + 1)).filter p = (l.take i).filter p ++ (if b then [c] else []) := by
  obtain ⟨lt, e⟩ := List.getElem?_eq_some_iff.mp h
  rw [← List.take_append_getElem lt, List.filter_append, e, List.filter_cons, hb]
  cases b <;> rfl
section
variable {P : Program} {w : World} {K : PySem.W.Frag} {mg : Str → Option Value} {base : Heap}
def spKeyList : Sp := fun vs H Q _ => ∃ (T : Nat) (tb : Addr) (M : Nat → Nat → Int), vs = [.int T, .ref tb] ∧ H tb = some (.dT (tabM M T)) ∧ T ≤ 24 ∧ ∀ p ys H', H p = none → Same H H' → H' p = some (.lst ys) → Paired (PairT H') ys (keysL M T) → Q (.ref p) H'
theorem ok__law_key_list (T : Txt w K mg) : Ok P w K mg base CX0 2 "_law_key_list" ["days", "table"] spKeyList := by
  refine Ok.def0 (f__law_key_list T) (fun _ _ _ _ _ _ us hl => match us, hl with | [_, _], _ => rfl) sc__law_key_list (fun vs H Q E h => ?_) (fun f cdv A outer s H vs Q E hr h => ?_)
  · obtain ⟨TT, tb, M, rfl, _⟩ := h
    rfl
  · obtain ⟨TT, tb, M, rfl, h2, hT, k⟩ := h
    refine ⟨_, (pss_cons (ps_set (i := 2) sc__law_key_list.nd rfl (by first | exact Or.inl rfl | exact Or.inr rfl) (pe_lst pa_nil))
      (pss_cons (ps_for PassesOwn.never rfl (pi_listK (K := K) rfl (pe_ok (ok__law_stretches T) (hr.mono (by first | decide | omega)) rfl pass0 (pa_cons (pv 0) pa_nil))) (pg_tupK (K := K) (n := 2) rfl rfl (pgs_cons (pg_name (i := 3) sc__law_key_list.nd rfl (by first | exact Or.inl rfl | exact Or.inr rfl)) (pgs_cons (pg_name (i := 4) sc__law_key_list.nd rfl (by first | exact Or.inl rfl | exact Or.inr rfl)) pgs_nil)))
        (pss_one (ps_if (PW.pt (pw_and (PW.pt (pw_or (pt_cmpR op_eq (pv 3) pe_int (nomark _)) (pw_or1 (pt_cmpR op_gt (pe_dget (du hr.units) (pv 1) (pe_tup (pa_cons (pe_op op_sub (pv 3) pe_int) (pa_cons (pv 4) pa_nil))) (fun _ _ => rfl)) (pe_dget (du hr.units) (pv 1) (pe_tup (pa_cons (pv 3) (pa_cons (pv 4) pa_nil))) (fun _ _ => rfl)) (nomark _))))) (pw_and1 (PW.pt (pw_or (pt_cmpR op_eq (pv 4) (pv 0) (nomark _)) (pw_or1 (pt_cmpR op_gt (pe_dget (du hr.units) (pv 1) (pe_tup (pa_cons (pv 3) (pa_cons (pe_op op_add (pv 4) pe_int) pa_nil))) (fun _ _ => rfl)) (pe_dget (du hr.units) (pv 1) (pe_tup (pa_cons (pv 3) (pa_cons (pv 4) pa_nil))) (fun _ _ => rfl)) (nomark _)))))))) (pss_one (ps_expr (pe_bm PySem.F.plainAttrs_list PySem.F.slot_list_append PySem.F.type_list_append mt_append (pv 2) (pa_cons (pe_tup (pa_cons (pv 3) (pa_cons (pv 4) pa_nil))) pa_nil)))) pss_nil)))
      (pss_one (ps_ret (pv 2))))), ?_⟩
    refine ⟨(by show 0 ≤ sizeLine; decide), fun D hD => ?_⟩
    obtain ⟨s1, g1⟩ := new2 (.lst []) hD
    refine ⟨_, rfl, TT, rfl, hT, fun l xs H1 s2 hl0 hl1 hP => ?_⟩
    have hxl : xs.length ≤ 576 := by
      rw [Paired.length hP]
      have := strL_len TT hT
      omega
    have nlD : l ≠ D := fun z => by rw [z, upd_same] at hl0; cases hl0
    refine ⟨l, rfl, ⟨_, SqL.of hl1⟩, for_list (K := K) (a := l) (xs := xs) (fun m σ H' => ∃ v3 v4 ys, σ = [some (.int TT), some (.ref tb), some (.ref D), v3, v4] ∧ Same H H' ∧ H' l = some (.lst xs) ∧ Paired (PairT H') xs (strL TT) ∧ H' D = some (.lst ys) ∧ Paired (PairT H') ys (((strL TT).take m).filter (keyB M TT))) ⟨_, _, [], rfl, s1.trans s2, hl1, hP, s2 _ _ g1, .nil⟩ (fun _ _ _ _ h => ?_) ?_ ?_⟩
    · obtain ⟨_, _, _, _, _, z, _⟩ := h
      exact SqL.of z
    · rintro m x σ H2 hx ⟨v3, v4, ys, rfl, e2, hl2, hP2, hD2, hK2⟩
      obtain ⟨c, hc, hr⟩ := paired_get hP2 hx
      obtain ⟨a, b, h1, h2', rfl⟩ := strL_mem (List.mem_of_getElem? hc)
      refine hr.un rfl ?_
      have hd2 := e2 _ _ h2
      refine EvT.ifs (b := keyB M TT ((a : Int), (b : Int))) ?_ fun H3 s3 => ?_
      · rw [keyB_nat]
        refine EvT.and (EvT.or (EvT.test (Ev.eq (Ev.var rfl) Ev.c)) fun z => EvT.test (Ev.i2 (Ev.dget (a := a - 1) (b := b) hd2 rfl (Ev.i2 (Ev.var rfl) Ev.c) (Ev.var rfl) ?_ rfl (by omega) h2') (Ev.dget (a := a) (b := b) hd2 rfl (Ev.var rfl) (Ev.var rfl) rfl rfl (by omega) h2')))
          fun _ => EvT.or (EvT.test (Ev.eq (Ev.var rfl) (Ev.var rfl))) fun z => EvT.test (Ev.i2 (Ev.dget (a := a) (b := b + 1) hd2 rfl (Ev.var rfl) (Ev.i2 (Ev.var rfl) Ev.c) rfl ?_ (by omega) ?_) (Ev.dget (a := a) (b := b) hd2 rfl (Ev.var rfl) (Ev.var rfl) rfl rfl (by omega) h2'))
        · have := of_decide_eq_false z
          omega
        · omega
        · have := of_decide_eq_false z
          omega
      · have hK3 := Paired.mapP hK2 fun _ _ z => z.same s3
        have hP3 := Paired.mapP hP2 fun _ _ z => z.same s3
        have st := flt_take2 (p := keyB M TT) hc _ rfl
        cases q : keyB M TT ((a : Int), (b : Int)) with
        | false =>
          rw [q] at st
          have st : ((strL TT).take (m + 1)).filter (keyB M TT) = ((strL TT).take m).filter (keyB M TT) := st.trans (List.append_nil _)
          refine ⟨_, _, ys, rfl, e2.trans s3, s3 _ _ hl2, hP3, s3 _ _ hD2, ?_⟩
          rw [st]
          exact hK3
        | true =>
          rw [q] at st
          have st : ((strL TT).take (m + 1)).filter (keyB M TT) = ((strL TT).take m).filter (keyB M TT) ++ [((a : Int), (b : Int))] := st
          refine ⟨_, rfl, .inl ⟨rfl, _, SqL.of (s3 _ _ hD2)⟩, _, rfl, _, rfl, (by show 2 ≤ sizeLine; decide), fun t ht => ?_⟩
          obtain ⟨s4, g4⟩ := new2 (.tup [.int (a : Int), .int (b : Int)]) ht
          have hD4 := s4 _ _ (s3 _ _ hD2)
          have hyl : ys.length ≤ 576 := by
            rw [Paired.length hK2]
            have := List.length_filter_le (keyB M TT) ((strL TT).take m)
            have := List.length_take_le m (strL TT)
            have := strL_len TT hT
            have : ((strL TT).take m).length ≤ (strL TT).length := by rw [List.length_take]; omega
            omega
          refine ⟨D, ys, _, rfl, rfl, hD4, line_lt (by omega), ?_⟩
          refine ⟨_, _, ys ++ [.ref t], rfl, same_mut ((e2.trans s3).trans s4) hD, ?_, ?_, upd_same, ?_⟩
          · rw [upd_ne nlD]
            exact s4 _ _ (s3 _ _ hl2)
          · exact Paired.mapP hP3 fun _ _ z => (z.same s4).mut hD4
          · rw [st]
            exact Paired.snoc (Paired.mapP hK3 fun _ _ z => (z.same s4).mut hD4) ((show PairT _ (.ref t) ((a : Int), (b : Int)) from ⟨t, rfl, g4⟩).mut hD4)
    · rintro σ H2 ⟨v3, v4, ys, rfl, e2, hl2, hP2, hD2, hK2⟩
      rw [Paired.length hP, List.take_length] at hK2
      exact ⟨_, rfl, k D ys H2 hD e2 hD2 hK2⟩
end
end K26
end
section
set_option maxRecDepth 100000
set_option maxHeartbeats 4000000
namespace K26
open PySem PySem.Spec PyProof.Rows L2
theorem ev_rain {K : PySem.W.Frag} {σ : L2.St} {H0 : Hp} {l : Addr} {xs : List V} {x : V} {r : Q4} {i j n k : Nat} {v : V} (hi : σ[i]? = some (some (.ref l))) (hj : σ[j]? = some (some (.int (n : Int)))) (hl : H0 l = some (.lst xs)) (hx : xs[n]? = some x) (hq : QuadT H0 x r) (hv : (q4V r)[k]? = some v) :
    Ev σ H0 (tOp (rIx K) (tOp (rIxL K) (tVar i) (tVar j)) (tC (.int (k : Nat)))) v := fun H' R s q =>
  ⟨_, hi, _, hj, l, xs, _, x, rfl, rfl, SqL.of (s _ _ hl), at_of rfl hx, (hq.same s).ix hv (q H' (Same.refl _))⟩
section
variable {P : Program} {w : World} {K : PySem.W.Frag} {mg : Str → Option Value} {base : Heap}
def spOneCan (K : PySem.W.Frag) : Sp := fun vs H Q E => ∃ (p : Addr) (d : Int) (rs : List Q4), vs = [.ref p] ∧ AlmAt K H p d rs ∧ rs.length ≤ 40 ∧ ((∀ r ∈ rs, r.2.2.1 = 1 ∧ r.2.2.2 = 1) → ∀ H', Same H H' → Q .non H') ∧ ∀ (n : Nat) (r : Q4), rs[n]? = some r → (∀ m, m < n → ∀ r, rs[m]? = some r → r.2.2.1 = 1 ∧ r.2.2.2 = 1) → ¬ (r.2.2.1 = 1 ∧ r.2.2.2 = 1) → Rz E H (cSk K) "row" (.int ((n : Int) + 1))
theorem ok_check_one_can (T : Txt w K mg) : Ok P w K mg base (L2.CX P w) 6 "check_one_can" ["almanac"] (spOneCan K) := by
  refine Ok.defX (f_check_one_can T) (fun _ _ _ _ _ _ us hl => match us, hl with | [_], _ => rfl) sc_check_one_can (fun vs H Q E h => ?_) (fun f cdv A outer s H vs Q E hr h tk => ?_)
  · obtain ⟨p, d, rs, rfl, _⟩ := h
    rfl
  · obtain ⟨p, d, rs, rfl, hA, hl, k, kb⟩ := h
    refine ⟨_, (pss_cons (ps_set (i := 1) sc_check_one_can.nd rfl (by first | exact Or.inl rfl | exact Or.inr rfl) (pe_okM0 (okm_Almanac_rains T) (cl_Almanac T) (pv 0) (hr.mono (by first | decide | omega)) pass0))
      (pss_one (ps_for (passes_of rfl) rfl (pi_range1 rfl (n_range T) (pa_cons (pe_callB (len_seqK (K := K) rfl) rfl (n_len T) (by decide +kernel) (pa_cons (pv 1) pa_nil)) pa_nil)) (pg_name (i := 2) sc_check_one_can.nd rfl (by first | exact Or.inl rfl | exact Or.inr rfl))
        (pss_one (ps_if (PW.pt (pw_or (pt_cmpR op_ne (pe_ix (ix_seqK (K := K) rfl) (pe_ix (ix_listK (K := K) rfl) (pv 1) (pv 2) (fun _ _ => rfl)) pe_int (fun _ _ => rfl)) pe_int (nomark _)) (pw_or1 (pt_cmpR op_ne (pe_ix (ix_seqK (K := K) rfl) (pe_ix (ix_listK (K := K) rfl) (pv 1) (pv 2) (fun _ _ => rfl)) pe_int (fun _ _ => rfl)) pe_int (nomark _))))) (pss_one (ps_raise rfl tk (pmk_x (x_BadSky T) (hr.mono (by first | decide | omega)) rfl (pa_cons (pe_op op_add (pv 2) pe_int) pa_nil)))) pss_nil))))), ?_⟩
    obtain ⟨dx, l0, xs0, h1, h2, h3⟩ := id hA
    refine ⟨_, rfl, p, dx, _, rfl, h1, af_no (by decide +kernel) (by decide +kernel), p, d, rs, rfl, hA, fun l xs H1 hl0 s1 hl1 hP => ?_⟩
    have hxl : xs.length = rs.length := Paired.length hP
    refine ⟨_, rfl, _, _, rfl, .inl (SqL.of hl1), _, rfl, by omega, by omega, for_upto (lo := 0) (L := rs.length) (by rw [hxl]; omega) (fun m σ H' => ∃ v2, σ = [some (.ref p), some (.ref l), v2] ∧ Same H1 H' ∧ ∀ q, q < m → ∀ r, rs[q]? = some r → r.2.2.1 = 1 ∧ r.2.2.2 = 1) ⟨_, rfl, Same.refl _, fun q h => by omega⟩ ?_ ?_⟩
    · rintro m σ H2 hm ⟨v2, rfl, e2, hlt⟩
      have em : (0 : Int) + (m : Int) = (m : Int) := by omega
      rw [em]
      refine gnE ?_
      obtain ⟨r, hr4⟩ : ∃ r, rs[m]? = some r := ⟨rs[m], List.getElem?_eq_getElem hm⟩
      obtain ⟨y, hy⟩ : ∃ y, xs[m]? = some y := ⟨xs[m]'(by omega), List.getElem?_eq_getElem _⟩
      obtain ⟨r', hr', hq⟩ := paired_get hP hy
      rw [hr4] at hr'
      cases hr'
      have hq2 := hq.same e2
      refine EvT.ifs (b := !decide (r.2.2.1 = 1) || !decide (r.2.2.2 = 1)) (EvT.or (EvT.test (Ev.ne (ev_rain (k := 2) rfl rfl (e2 _ _ hl1) hy hq2 rfl) Ev.c)) fun _ => EvT.test (Ev.ne (ev_rain (k := 3) rfl rfl (e2 _ _ hl1) hy hq2 rfl) Ev.c)) fun H3 s3 => ?_
      by_cases c : r.2.2.1 = 1 ∧ r.2.2.2 = 1
      · rw [decide_eq_true c.1, decide_eq_true c.2]
        refine ⟨_, rfl, e2.trans s3, fun q hq r' hr' => ?_⟩
        by_cases eq : q = m
        · rw [eq, hr4] at hr'
          cases hr'
          exact c
        · exact hlt q (by omega) r' hr'
      · have : (!decide (r.2.2.1 = 1) || !decide (r.2.2.2 = 1)) = true := by
          by_cases c1 : r.2.2.1 = 1
          · rw [decide_eq_false (p := r.2.2.2 = 1) fun z => c ⟨c1, z⟩]
            simp
          · rw [decide_eq_false c1]
            rfl
        rw [this]
        exact ⟨_, rfl, _, _, rfl, rfl, mko ((kb m r hr4 hlt c).at (s1.trans (e2.trans s3)))⟩
    · rintro σ H2 ⟨v2, rfl, e2, hlt⟩
      refine k (fun r hr => ?_) _ (s1.trans e2)
      obtain ⟨q, hq⟩ := List.getElem?_of_mem hr
      exact hlt q (List.getElem?_eq_some_iff.mp hq).1 r hq
end
end K26
end
section
set_option maxRecDepth 100000
set_option maxHeartbeats 4000000
namespace K26
open PySem PySem.Spec PyProof.Rows L2
def OneCan (rs : List Q4) : Prop := ∀ r ∈ rs, r.2.2.1 = 1 ∧ r.2.2.2 = 1
def BadCan (rs : List Q4) (n : Nat) : Prop := ∃ r, rs[n]? = some r ∧ (∀ m, m < n → ∀ r, rs[m]? = some r → r.2.2.1 = 1 ∧ r.2.2.2 = 1) ∧ ¬ (r.2.2.1 = 1 ∧ r.2.2.2 = 1)
section
variable {P : Program} {w : World} {K : PySem.W.Frag} {mg : Str → Option Value} {base : Heap}
def spKeyStr (K : PySem.W.Frag) : Sp := fun vs H Q E => ∃ (T : Nat) (p : Addr) (rs : List Q4), vs = [.ref p] ∧ AlmAt K H p T rs ∧ rs.length ≤ 40 ∧ T ≤ 24 ∧ (∀ r ∈ rs, GoodR r) ∧ (OneCan rs → ∀ q ys H', H q = none → Same H H' → H' q = some (.lst ys) → Paired (PairT H') ys (keysL (tabR rs) T) → Q (.ref q) H') ∧ (∀ n, BadCan rs n → Rz E H (cSk K) "row" (.int ((n : Int) + 1)))
theorem ok_key_stretches (T : Txt w K mg) : Ok P w K mg base (L2.CX P w) 7 "key_stretches" ["almanac"] (spKeyStr K) := by
  refine Ok.defX (f_key_stretches T) (fun _ _ _ _ _ _ us hl => match us, hl with | [_], _ => rfl) sc_key_stretches (fun vs H Q E h => ?_) (fun f cdv A outer s H vs Q E hr h tk => ?_)
  · obtain ⟨TT, p, rs, rfl, _⟩ := h
    rfl
  · obtain ⟨TT, p, rs, rfl, hA, hl, hT, hg, k, kb⟩ := h
    refine ⟨_, (pss_cons (ps_expr (pe_okS (ok_check_one_can T) (hr.mono (by first | decide | omega)) rfl (fun σ => passAt tk σ) (pa_cons (pv 0) pa_nil)))
      (pss_cons (ps_set (i := 1) sc_key_stretches.nd rfl (by first | exact Or.inl rfl | exact Or.inr rfl) (pe_okM0 (okm_Almanac_days T) (cl_Almanac T) (pv 0) (hr.mono (by first | decide | omega)) pass0))
      (pss_cons (ps_set (i := 2) sc_key_stretches.nd rfl (by first | exact Or.inl rfl | exact Or.inr rfl) (pe_ok (ok_span_counts T) (hr.mono (by first | decide | omega)) rfl pass0 (pa_cons (pv 0) pa_nil)))
      (pss_cons (ps_set (i := 3) sc_key_stretches.nd rfl (by first | exact Or.inl rfl | exact Or.inr rfl) (pe_lst pa_nil))
      (pss_cons (ps_for (passes_of rfl) rfl (pi_listK (K := K) rfl (pe_ok (ok_all_stretches T) (hr.mono (by first | decide | omega)) rfl pass0 (pa_cons (pv 1) pa_nil))) (pg_tupK (K := K) (n := 2) rfl rfl (pgs_cons (pg_name (i := 4) sc_key_stretches.nd rfl (by first | exact Or.inl rfl | exact Or.inr rfl)) (pgs_cons (pg_name (i := 5) sc_key_stretches.nd rfl (by first | exact Or.inl rfl | exact Or.inr rfl)) pgs_nil)))
        (pss_cons (ps_set (i := 6) sc_key_stretches.nd rfl (by first | exact Or.inl rfl | exact Or.inr rfl) (pe_or (pe_cmpR op_eq (pv 4) pe_int (nomark _)) (pe_one (pe_cmpR op_gt (pe_dget (du hr.units) (pv 2) (pe_tup (pa_cons (pe_op op_sub (pv 4) pe_int) (pa_cons (pv 5) pa_nil))) (fun _ _ => rfl)) (pe_dget (du hr.units) (pv 2) (pe_tup (pa_cons (pv 4) (pa_cons (pv 5) pa_nil))) (fun _ _ => rfl)) (nomark _)))))
      (pss_cons (ps_set (i := 7) sc_key_stretches.nd rfl (by first | exact Or.inl rfl | exact Or.inr rfl) (pe_or (pe_cmpR op_eq (pv 5) (pv 1) (nomark _)) (pe_one (pe_cmpR op_gt (pe_dget (du hr.units) (pv 2) (pe_tup (pa_cons (pv 4) (pa_cons (pe_op op_add (pv 5) pe_int) pa_nil))) (fun _ _ => rfl)) (pe_dget (du hr.units) (pv 2) (pe_tup (pa_cons (pv 4) (pa_cons (pv 5) pa_nil))) (fun _ _ => rfl)) (nomark _)))))
      (pss_one (ps_if (PW.pt (pw_and (pt_val (pv 6)) (pw_and1 (pt_val (pv 7))))) (pss_one (ps_expr (pe_bm PySem.F.plainAttrs_list PySem.F.slot_list_append PySem.F.type_list_append mt_append (pv 3) (pa_cons (pe_tup (pa_cons (pv 4) (pa_cons (pv 5) pa_nil))) pa_nil)))) pss_nil)))))
      (pss_one (ps_ret (pv 3)))))))), ?_⟩
    refine ⟨_, rfl, p, TT, rs, rfl, hA, hl, fun hone H1 s1 => ?_, fun n r h1 h2 h3 => kb n ⟨r, h1, h2, h3⟩⟩
    have hA1 := hA.same s1
    obtain ⟨dx, l0, xs0, i1, i2, i3⟩ := id hA1
    refine ⟨_, rfl, p, dx, _, rfl, i1, af_no (by decide +kernel) (by decide +kernel), p, TT, rs, rfl, hA1, ?_⟩
    refine ⟨_, rfl, TT, p, rs, rfl, hA1, hl, hT, hg, fun tb H2 htb s2 d2 => ?_⟩
    have e2 := s1.trans s2
    refine ⟨(by show 0 ≤ sizeLine; decide), fun D hD => ?_⟩
    obtain ⟨s3, g3⟩ := new2 (.lst []) hD
    have hD0 : H D = none := none_of e2 hD
    refine ⟨_, rfl, TT, rfl, hT, fun l xs H3 s4 hl0 hl1 hP => ?_⟩
    have d3 : H3 tb = some (.dT (tabM (tabR rs) TT)) := s4 _ _ (s3 _ _ d2)
    have hxl : xs.length ≤ 576 := by
      rw [Paired.length hP]
      have := strL_len TT hT
      omega
    have nlD : l ≠ D := fun z => by rw [z, upd_same] at hl0; cases hl0
    have ntD : tb ≠ D := fun z => by rw [z, hD] at d2; cases d2
    refine ⟨l, rfl, ⟨_, SqL.of hl1⟩, for_list (K := K) (a := l) (xs := xs) (fun m σ H' => ∃ v4 v5 v6 v7 ys, σ = [some (.ref p), some (.int TT), some (.ref tb), some (.ref D), v4, v5, v6, v7] ∧ Same H H' ∧ H' tb = some (.dT (tabM (tabR rs) TT)) ∧ H' l = some (.lst xs) ∧ Paired (PairT H') xs (strL TT) ∧ H' D = some (.lst ys) ∧ Paired (PairT H') ys (((strL TT).take m).filter (keyB (tabR rs) TT))) ⟨_, _, _, _, [], rfl, e2.trans (s3.trans s4), d3, hl1, hP, s4 _ _ g3, .nil⟩ (fun _ _ _ _ h => ?_) ?_ ?_⟩
    · obtain ⟨_, _, _, _, _, _, _, _, z, _⟩ := h
      exact SqL.of z
    · rintro m x σ H4 hx ⟨v4, v5, v6, v7, ys, rfl, e4, d4, hl4, hP4, hD4, hK4⟩
      obtain ⟨c, hc, hr⟩ := paired_get hP4 hx
      obtain ⟨a, b, h1, h2', rfl⟩ := strL_mem (List.mem_of_getElem? hc)
      refine hr.un rfl ?_
      refine Ev.seq (v := .bl (decide ((a : Int) = 0) || decide (tabR rs a b < tabR rs (a - 1) b))) (Ev.or (Ev.eq (Ev.var rfl) Ev.c) fun z => Ev.i2 (Ev.dget (a := a - 1) (b := b) d4 rfl (Ev.i2 (Ev.var rfl) Ev.c) (Ev.var rfl) ?_ rfl (by omega) h2') (Ev.dget (a := a) (b := b) d4 rfl (Ev.var rfl) (Ev.var rfl) rfl rfl (by omega) h2')) fun H5 s5 => ?_
      · have := of_decide_eq_false z
        omega
      have d5 := s5 _ _ d4
      refine Ev.seq (v := .bl (decide ((b : Int) = (TT : Int)) || decide (tabR rs a b < tabR rs a (b + 1)))) (Ev.or (Ev.eq (Ev.var rfl) (Ev.var rfl)) fun z => Ev.i2 (Ev.dget (a := a) (b := b + 1) d5 rfl (Ev.var rfl) (Ev.i2 (Ev.var rfl) Ev.c) rfl ?_ (by omega) ?_) (Ev.dget (a := a) (b := b) d5 rfl (Ev.var rfl) (Ev.var rfl) rfl rfl (by omega) h2')) fun H6 s6 => ?_
      · omega
      · have := of_decide_eq_false z
        omega
      refine EvT.ifs (b := keyB (tabR rs) TT ((a : Int), (b : Int))) ?_ fun H7 s7 => ?_
      · rw [keyB_nat]
        exact EvT.and (EvT.b (Ev.var rfl)) fun _ => EvT.b (Ev.var rfl)
      · have s47 := s5.trans (s6.trans s7)
        have hK3 := Paired.mapP hK4 fun _ _ z => z.same s47
        have hP3 := Paired.mapP hP4 fun _ _ z => z.same s47
        have st := flt_take2 (p := keyB (tabR rs) TT) hc _ rfl
        cases q : keyB (tabR rs) TT ((a : Int), (b : Int)) with
        | false =>
          rw [q] at st
          have st : ((strL TT).take (m + 1)).filter (keyB (tabR rs) TT) = ((strL TT).take m).filter (keyB (tabR rs) TT) := st.trans (List.append_nil _)
          refine ⟨_, _, _, _, ys, rfl, e4.trans s47, s47 _ _ d4, s47 _ _ hl4, hP3, s47 _ _ hD4, ?_⟩
          rw [st]
          exact hK3
        | true =>
          rw [q] at st
          have st : ((strL TT).take (m + 1)).filter (keyB (tabR rs) TT) = ((strL TT).take m).filter (keyB (tabR rs) TT) ++ [((a : Int), (b : Int))] := st
          refine ⟨_, rfl, .inl ⟨rfl, _, SqL.of (s47 _ _ hD4)⟩, _, rfl, _, rfl, (by show 2 ≤ sizeLine; decide), fun t ht => ?_⟩
          obtain ⟨s8, g8⟩ := new2 (.tup [.int (a : Int), .int (b : Int)]) ht
          have hD8 := s8 _ _ (s47 _ _ hD4)
          have hyl : ys.length ≤ 576 := by
            rw [Paired.length hK4]
            have := List.length_filter_le (keyB (tabR rs) TT) ((strL TT).take m)
            have := strL_len TT hT
            have : ((strL TT).take m).length ≤ (strL TT).length := by rw [List.length_take]; omega
            omega
          refine ⟨D, ys, _, rfl, rfl, hD8, line_lt (by omega), ?_⟩
          refine ⟨_, _, _, _, ys ++ [.ref t], rfl, same_mut ((e4.trans s47).trans s8) hD0, ?_, ?_, ?_, upd_same, ?_⟩
          · rw [upd_ne ntD]
            exact s8 _ _ (s47 _ _ d4)
          · rw [upd_ne nlD]
            exact s8 _ _ (s47 _ _ hl4)
          · exact Paired.mapP hP3 fun _ _ z => (z.same s8).mut hD8
          · rw [st]
            exact Paired.snoc (Paired.mapP hK3 fun _ _ z => (z.same s8).mut hD8) ((show PairT _ (.ref t) ((a : Int), (b : Int)) from ⟨t, rfl, g8⟩).mut hD8)
    · rintro σ H4 ⟨v4, v5, v6, v7, ys, rfl, e4, d4, hl4, hP4, hD4, hK4⟩
      rw [Paired.length hP, List.take_length] at hK4
      exact ⟨_, rfl, k hone D ys H4 hD0 e4 hD4 hK4⟩
end
end K26
end
section
set_option maxRecDepth 100000
set_option maxHeartbeats 4000000
namespace K26
open PySem PySem.Spec PyProof.Rows L2
def rsum : List (Int × Int) → Int
  | [] => 0
  | c :: r => c.2 + rsum r
def wsum : List (List (Int × Int)) → Int
  | [] => 0
  | c :: r => rsum c + wsum r
theorem rsum_app {l m : List (Int × Int)} : rsum (l ++ m) = rsum l + rsum m := by
  induction l with
  | nil => show _ = 0 + _; rw [Int.zero_add]; rfl
  | cons c l ih =>
    show c.2 + rsum (l ++ m) = (c.2 + rsum l) + rsum m
    rw [ih, Int.add_assoc]
theorem wsum_app {l m : List (List (Int × Int))} : wsum (l ++ m) = wsum l + wsum m := by
  induction l with
  | nil => show _ = 0 + _; rw [Int.zero_add]; rfl
  | cons c l ih =>
    show rsum c + wsum (l ++ m) = (rsum c + wsum l) + wsum m
    rw [ih, Int.add_assoc]
theorem rsum_take {l : List (Int × Int)} {i : Nat} {c : Int × Int} (h : l[i]? = some c) : rsum (l.take (i + 1)) = rsum (l.take i) + c.2 := by
  obtain ⟨lt, e⟩ := List.getElem?_eq_some_iff.mp h
  rw [← List.take_append_getElem lt, rsum_app, e]
  show _ + (c.2 + 0) = _
  rw [Int.add_zero]
theorem wsum_take {l : List (List (Int × Int))} {i : Nat} {c : List (Int × Int)} (h : l[i]? = some c) : wsum (l.take (i + 1)) = wsum (l.take i) + rsum c := by
  obtain ⟨lt, e⟩ := List.getElem?_eq_some_iff.mp h
  rw [← List.take_append_getElem lt, wsum_app, e]
  show _ + (rsum c + 0) = _
  rw [Int.add_zero]
/-- what has fallen by each day -/
def fellBy (W : List (List (Int × Int))) (k : Nat) : Int := wsum (W.take k)
theorem firstBad_nn (rs : List Q4) : ∀ (W : List (List (Int × Int))) {k : Int} {g : List Int}, 0 ≤ k → 0 ≤ firstBad rs k g W
  | [], _, _, _ => Int.le_refl _
  | rep :: W, k, g, h => by
    show 0 ≤ (match dayStep rs k g rep with
      | none => k
      | some g' => firstBad rs (k + 1) g' W)
    split
    · exact h
    · exact firstBad_nn rs W (by omega)
section
variable {P : Program} {w : World} {K : PySem.W.Frag} {mg : Str → Option Value} {base : Heap}
def spFallC : Sp := fun vs H Q _ => ∃ (a : Addr) (W : List (List (Int × Int))), vs = [.ref a] ∧ WeaT H a W ∧ W.length ≤ 100 ∧ ∀ l H', H l = none → Same H H' → H' l = some (.lst (rowV (W.length + 1) (fellBy W))) → Q (.ref l) H'
theorem ok_fall_counts (T : Txt w K mg) : Ok P w K mg base CX0 1 "fall_counts" ["weather"] spFallC := by
  refine Ok.def0 (f_fall_counts T) (fun _ _ _ _ _ _ us hl => match us, hl with | [_], _ => rfl) sc_fall_counts (fun vs H Q E h => ?_) (fun f cdv A outer s H vs Q E hr h => ?_)
  · obtain ⟨a, W, rfl, _⟩ := h
    rfl
  · obtain ⟨a, W, rfl, ⟨ys, w1, w2⟩, hW, k⟩ := h
    refine ⟨_, (pss_cons (ps_set (i := 1) sc_fall_counts.nd rfl (by first | exact Or.inl rfl | exact Or.inr rfl) pe_int)
      (pss_cons (ps_set (i := 2) sc_fall_counts.nd rfl (by first | exact Or.inl rfl | exact Or.inr rfl) (pe_lst (pa_cons pe_int pa_nil)))
      (pss_cons (ps_for PassesOwn.never rfl (pi_listK (K := K) rfl (pv 0)) (pg_name (i := 3) sc_fall_counts.nd rfl (by first | exact Or.inl rfl | exact Or.inr rfl))
        (pss_cons (ps_for PassesOwn.never rfl (pi_listK (K := K) rfl (pv 3)) (pg_name (i := 4) sc_fall_counts.nd rfl (by first | exact Or.inl rfl | exact Or.inr rfl))
        (pss_one (ps_aug (i := 1) sc_fall_counts.nd rfl (by first | exact Or.inl rfl | exact Or.inr rfl) (pe_ix (ix_seqK (K := K) rfl) (pv 4) pe_int (fun _ _ => rfl)) ip_add)))
      (pss_one (ps_expr (pe_bm PySem.F.plainAttrs_list PySem.F.slot_list_append PySem.F.type_list_append mt_append (pv 2) (pa_cons (pv 1) pa_nil))))))
      (pss_one (ps_ret (pv 2)))))), ?_⟩
    refine ⟨(by show 1 ≤ sizeLine; decide), fun fl hfl => ?_⟩
    obtain ⟨s1, g1⟩ := new2 (.lst [V.int 0]) hfl
    have hyl : ys.length = W.length := Paired.length w2
    refine ⟨_, rfl, a, rfl, ⟨_, SqL.of (s1 _ _ w1)⟩, for_list (K := K) (a := a) (xs := ys) (fun i σ H' => ∃ v3 v4, σ = [some (.ref a), some (.int (fellBy W i)), some (.ref fl), v3, v4] ∧ Same H H' ∧ H' fl = some (.lst (rowV (i + 1) (fellBy W)))) ⟨_, _, rfl, s1, g1⟩ (fun _ _ _ _ ⟨_, _, _, z, _⟩ => SqL.of (z _ _ w1)) ?_ ?_⟩
    · rintro i x σ H1 hx ⟨v3, v4, rfl, e1, f1⟩
      obtain ⟨rep, hrep, l2, zs, rfl, r1, r2⟩ := paired_get w2 hx
      have hi : i < W.length := (List.getElem?_eq_some_iff.mp hrep).1
      have r1 := e1 _ _ r1
      refine gnE ?_
      refine ⟨_, rfl, l2, rfl, ⟨_, SqL.of r1⟩, for_list (K := K) (a := l2) (xs := zs) (fun j σ H' => ∃ v4, σ = [some (.ref a), some (.int (fellBy W i + rsum (rep.take j))), some (.ref fl), some (.ref l2), v4] ∧ Same H1 H') ⟨v4, ?_, Same.refl H1⟩ (fun _ _ _ _ ⟨_, _, z⟩ => SqL.of (z _ _ r1)) ?_ ?_⟩
      · show _ = [_, some (V.int (fellBy W i + 0)), _, _, _]
        rw [Int.add_zero]
        rfl
      · rintro j x σ H3 hx3 ⟨v4, rfl, e3⟩
        obtain ⟨c, hc, hr⟩ := paired_get r2 hx3
        refine gnE ?_
        refine ⟨_, rfl, _, rfl, ((hr.same e1).same e3).i1 ⟨_, _, rfl, rfl, some x, ?_, e3⟩⟩
        rw [rsum_take hc, ← Int.add_assoc]
        rfl
      · rintro σ H3 ⟨v4, rfl, e3⟩
        rw [Paired.length r2, List.take_length]
        have f3 := e3 _ _ f1
        refine ⟨_, rfl, .inl ⟨rfl, _, SqL.of f3⟩, _, rfl, fl, _, _, rfl, rfl, f3, line_lt (by rw [rowV_len]; omega), ?_⟩
        refine ⟨some (.ref l2), v4, ?_, same_mut (e1.trans e3) hfl, ?_⟩
        · unfold fellBy
          rw [wsum_take hrep]
        · rw [upd_same]
          unfold rowV
          rw [List.range_succ (n := i + 1), List.map_append]
          show _ = some (HO.lst (_ ++ [V.int (fellBy W (i + 1))]))
          unfold fellBy
          rw [wsum_take hrep]
    · rintro σ H1 ⟨v3, v4, rfl, e1, f1⟩
      rw [hyl] at f1
      exact ⟨_, rfl, k fl H1 hfl e1 f1⟩
def spCheckW (K : PySem.W.Frag) : Sp := fun vs H Q E => ∃ (T : Nat) (p a : Addr) (rs : List Q4) (W : List (List (Int × Int))), vs = [.ref p, .ref a] ∧ AlmAt K H p T rs ∧ WeaT H a W ∧ T ≤ 24 ∧ W.length ≤ 100 ∧ rs.length ≤ 40 ∧ (∀ r ∈ rs, GoodR r) ∧ total W ≤ 2000 ∧ (wrongOf rs T W = -1 → ∀ H', Same H H' → Q .non H') ∧ (wrongOf rs T W ≠ -1 → Rz E H (cWe K) "day" (.int (wrongOf rs T W)))
theorem ok_check_weather (T : Txt w K mg) : Ok P w K mg base (L2.CX P w) 6 "check_weather" ["almanac", "weather"] (spCheckW K) := by
  refine Ok.defX (f_check_weather T) (fun _ _ _ _ _ _ us hl => match us, hl with | [_, _], _ => rfl) sc_check_weather (fun vs H Q E h => ?_) (fun f cdv A outer s H vs Q E hr h tk => ?_)
  · obtain ⟨TT, p, a, rs, W, rfl, _⟩ := h
    rfl
  · obtain ⟨TT, p, a, rs, W, rfl, hA, hWt, hT, hW, hl, hg, htot, k, kb⟩ := h
    refine ⟨_, (pss_cons (ps_if (pt_cmpR op_ne (pe_callB (len_seqK (K := K) rfl) rfl (n_len T) (by decide +kernel) (pa_cons (pv 1) pa_nil)) (pe_okM0 (okm_Almanac_days T) (cl_Almanac T) (pv 0) (hr.mono (by first | decide | omega)) pass0) (nomark _)) (pss_one (ps_raise rfl tk (pmk_x (x_BadWeather T) (hr.mono (by first | decide | omega)) rfl (pa_cons pe_int pa_nil)))) pss_nil)
      (pss_cons (ps_set (i := 2) sc_check_weather.nd rfl (by first | exact Or.inl rfl | exact Or.inr rfl) (pe_okM (okm_Almanac_begins T) (cl_Almanac T) (pv 0) (hr.mono (by first | decide | omega)) pass0 (pa_cons (pv 1) pa_nil)))
      (pss_one (ps_if (pt_cmpR op_ne (pv 2) pe_int (nomark _)) (pss_one (ps_raise rfl tk (pmk_x (x_BadWeather T) (hr.mono (by first | decide | omega)) rfl (pa_cons (pv 2) pa_nil)))) pss_nil)))), ?_⟩
    obtain ⟨dx, l0, xs0, h1, h2, h3⟩ := id hA
    obtain ⟨ys, w1, w2⟩ := id hWt
    have hyl : ys.length = W.length := Paired.length w2
    refine ⟨_, rfl, _, _, rfl, .inl (SqL.of w1), _, rfl, p, dx, _, rfl, h1, af_no (by decide +kernel) (by decide +kernel), p, TT, rs, rfl, hA, rfl, _, rfl, ?_⟩
    rw [hyl]
    have ecast : (!decide (V.int (W.length : Int) = V.int (TT : Int))) = !decide (W.length = TT) := by
      congr 1
      rw [decide_eq_decide]
      exact ⟨fun z => by have := V.int.inj z; omega, fun z => by rw [z]⟩
    rw [ecast]
    cases hlen : decide (W.length = TT) with
    | false =>
      have hlen := of_decide_eq_false hlen
      have wr : wrongOf rs TT W = 0 := by unfold wrongOf; rw [if_neg hlen]
      have kb := kb (by rw [wr]; decide)
      rw [wr] at kb
      exact mko (kb.at (Same.refl H))
    | true =>
      have hlen := of_decide_eq_true hlen
      refine ⟨_, rfl, p, dx, _, rfl, h1, af_no (by decide +kernel) (by decide +kernel), _, rfl, p, TT, rs, a, W, rfl, hA, hl, hg, hWt, by omega, htot, fun H1 s1 => ?_⟩
      refine ⟨_, rfl, rfl, _, rfl, ?_⟩
      have ec : (!decide (V.int (firstBad rs 1 [] W) = V.int 0)) = !decide (firstBad rs 1 [] W = 0) := by
        congr 1
        rw [decide_eq_decide]
        exact ⟨fun z => V.int.inj z, fun z => by rw [z]⟩
      rw [ec]
      have wr : wrongOf rs TT W = if firstBad rs 1 [] W = 0 then -1 else firstBad rs 1 [] W := by unfold wrongOf; rw [if_pos hlen]
      cases q : decide (firstBad rs 1 [] W = 0) with
      | true =>
        have q := of_decide_eq_true q
        rw [if_pos q] at wr
        exact k wr H1 s1
      | false =>
        have q := of_decide_eq_false q
        rw [if_neg q] at wr
        have nn := firstBad_nn rs W (k := 1) (g := []) (by omega)
        have kb := kb (by rw [wr]; omega)
        rw [wr] at kb
        exact ⟨_, rfl, mko (kb.at s1)⟩
end
end K26
end
section
set_option maxRecDepth 100000
set_option maxHeartbeats 4000000
namespace K26
open PySem PySem.Spec PyProof.Rows L2
def tgB (M : Nat → Nat → Int) (F : Nat → Int) (c : Int × Int) : Bool := decide (F c.2.toNat - F c.1.toNat = M c.1.toNat c.2.toNat)
def tightL (M : Nat → Nat → Int) (F : Nat → Int) (T : Nat) : List (Int × Int) := (strL T).filter (tgB M F)
theorem ev_ixl {K : PySem.W.Frag} {σ : L2.St} {H0 : Hp} {l : Addr} {xs : List V} {i j n : Nat} {z : Int} {v : V} (hi : σ[i]? = some (some (.ref l))) (hj : σ[j]? = some (some (.int z))) (hz : z = (n : Int)) (hl : H0 l = some (.lst xs)) (hx : xs[n]? = some v) :
    Ev σ H0 (tOp (rIxL K) (tVar i) (tVar j)) v := fun H' R s q =>
  ⟨_, hi, _, hj, l, xs, _, v, rfl, rfl, SqL.of (s _ _ hl), at_of hz hx, q H' (Same.refl _)⟩
section
variable {P : Program} {w : World} {K : PySem.W.Frag} {mg : Str → Option Value} {base : Heap}
def spTightA : Sp := fun vs H Q _ => ∃ (T : Nat) (a tb l : Addr) (xs : List V) (W : List (List (Int × Int))) (M : Nat → Nat → Int), vs = [.ref a, .ref tb, .ref l] ∧ WeaT H a W ∧ W.length = T ∧ T ≤ 24 ∧ H tb = some (.dT (tabM M T)) ∧ H l = some (.lst xs) ∧ Paired (PairT H) xs (strL T) ∧ ∀ p ys H', H p = none → Same H H' → H' p = some (.lst ys) → Paired (PairT H') ys (tightL M (fellBy W) T) → Q (.ref p) H'
theorem ok_tight_among (T : Txt w K mg) : Ok P w K mg base CX0 2 "tight_among" ["weather", "counts", "stretches"] spTightA := by
  refine Ok.def0 (f_tight_among T) (fun _ _ _ _ _ _ us hl => match us, hl with | [_, _, _], _ => rfl) sc_tight_among (fun vs H Q E h => ?_) (fun f cdv A outer s H vs Q E hr h => ?_)
  · obtain ⟨TT, a, tb, l, xs, W, M, rfl, _⟩ := h
    rfl
  · obtain ⟨TT, a, tb, l, xs, W, M, rfl, hWt, hW, hT, hd, hl, hP, k⟩ := h
    refine ⟨_, (pss_cons (ps_set (i := 3) sc_tight_among.nd rfl (by first | exact Or.inl rfl | exact Or.inr rfl) (pe_ok (ok_fall_counts T) (hr.mono (by first | decide | omega)) rfl pass0 (pa_cons (pv 0) pa_nil)))
      (pss_one (ps_ret (pe_lc (own := [("a", 4), ("b", 5)]) rfl sc_tight_among.nd (pi_listK (K := K) rfl (pv 2)) (blkOk_by (N := ["weather", "counts", "stretches", "fallen", "a", "b"]) (sc := defScope s_tight_among) (by decide +kernel)) (fun _ _ _ _ _ => (pg_tupK (K := K) (n := 2) rfl rfl (pgs_cons (pg_name (i := 4) sc_tight_among.nd rfl (by first | exact Or.inl rfl | exact Or.inr rfl)) (pgs_cons (pg_name (i := 5) sc_tight_among.nd rfl (by first | exact Or.inl rfl | exact Or.inr rfl)) pgs_nil)))) (fun _ _ _ _ _ => pts_one (pt_cmpR op_eq (pe_op op_sub (pe_ix (ix_listK (K := K) rfl) (pv 3) (pv 5) (fun _ _ => rfl)) (pe_ix (ix_listK (K := K) rfl) (pv 3) (pv 4) (fun _ _ => rfl))) (pe_dget (du hr.units) (pv 1) (pe_tup (pa_cons (pv 4) (pa_cons (pv 5) pa_nil))) (fun _ _ => rfl)) (nomark _))) (fun _ _ _ _ _ => (pe_tup (pa_cons (pv 4) (pa_cons (pv 5) pa_nil)))))))), ?_⟩
    have hxl : xs.length ≤ 576 := by
      rw [Paired.length hP]
      have := strL_len TT hT
      omega
    refine ⟨_, rfl, a, W, rfl, hWt, by omega, fun fl H1 hfl s1 f1 => ?_⟩
    rw [hW] at f1
    refine ⟨_, rfl, l, rfl, ⟨_, SqL.of (s1 _ _ hl)⟩, fun D hD => lc_acc (K := K) (a := l) (xs := xs) hD (SqL.of (s1 _ _ hl)) (by omega) (fun j acc H' => Paired (PairT H') acc (((strL TT).take j).filter (tgB M (fellBy W)))) (fun _ _ => .nil) ?_ ?_⟩
    · rintro j x acc H2 N N0 hx s2 hacc hI hN hN0
      obtain ⟨c, hc, hr⟩ := paired_get hP hx
      have hr := hr.same (s1.trans s2)
      obtain ⟨a', b', h1, h2', rfl⟩ := strL_mem (List.mem_of_getElem? hc)
      refine hr.un rfl ⟨rfl, ?_⟩
      have st := flt_take2 (p := tgB M (fellBy W)) hc _ rfl
      have f2 := s2 _ _ f1
      have d2 := s2 _ _ (s1 _ _ hd)
      refine EvT.run (b := tgB M (fellBy W) ((a' : Int), (b' : Int))) (EvT.test (Ev.eq (Ev.i2 (ev_ixl (n := b') rfl rfl rfl f2 (rowV_get (by omega))) (ev_ixl (n := a') rfl rfl rfl f2 (rowV_get (by omega)))) (Ev.dget (a := a') (b := b') (T := TT) d2 rfl (Ev.var rfl) (Ev.var rfl) rfl rfl (by omega) h2'))) fun H3 s3 => ?_
      cases q : tgB M (fellBy W) ((a' : Int), (b' : Int)) with
      | false =>
        rw [q] at st
        have st : ((strL TT).take (j + 1)).filter (tgB M (fellBy W)) = ((strL TT).take j).filter (tgB M (fellBy W)) := st.trans (List.append_nil _)
        refine hN0 _ s3 ?_
        rw [st]
        exact Paired.mapP hI fun _ _ z => z.same s3
      | true =>
        rw [q] at st
        have st : ((strL TT).take (j + 1)).filter (tgB M (fellBy W)) = ((strL TT).take j).filter (tgB M (fellBy W)) ++ [((a' : Int), (b' : Int))] := st
        refine ⟨_, rfl, _, rfl, (by show 2 ≤ sizeLine; decide), fun t ht => ?_⟩
        obtain ⟨s4, g4⟩ := new2 (.tup [.int (a' : Int), .int (b' : Int)]) ht
        have hacc4 := s4 _ _ (s3 _ _ hacc)
        refine hN _ _ (s3.trans s4) fun H5 b5 _ => ?_
        rw [st]
        exact Paired.snoc (Paired.mapP hI fun _ _ z => ((z.same s3).same s4).but hacc4 b5) ((show PairT _ (.ref t) ((a' : Int), (b' : Int)) from ⟨t, rfl, g4⟩).but hacc4 b5)
    · rintro acc H2 s2 hacc _ hI
      rw [Paired.length hP, List.take_length] at hI
      exact k D acc H2 (none_of s1 hD) (s1.trans s2) hacc hI
def spTightS (K : PySem.W.Frag) : Sp := fun vs H Q E => ∃ (T : Nat) (p a : Addr) (rs : List Q4) (W : List (List (Int × Int))), vs = [.ref p, .ref a] ∧ AlmAt K H p T rs ∧ WeaT H a W ∧ T ≤ 24 ∧ W.length ≤ 100 ∧ rs.length ≤ 40 ∧ (∀ r ∈ rs, GoodR r) ∧ total W ≤ 2000 ∧ (∀ n, BadCan rs n → Rz E H (cSk K) "row" (.int ((n : Int) + 1))) ∧ (OneCan rs → wrongOf rs T W ≠ -1 → Rz E H (cWe K) "day" (.int (wrongOf rs T W))) ∧ (OneCan rs → wrongOf rs T W = -1 → ∀ q ys H', H q = none → Same H H' → H' q = some (.lst ys) → Paired (PairT H') ys (tightL (tabR rs) (fellBy W) T) → Q (.ref q) H')
theorem ok_tight_stretches (T : Txt w K mg) : Ok P w K mg base (L2.CX P w) 7 "tight_stretches" ["almanac", "weather"] (spTightS K) := by
  refine Ok.defX (f_tight_stretches T) (fun _ _ _ _ _ _ us hl => match us, hl with | [_, _], _ => rfl) sc_tight_stretches (fun vs H Q E h => ?_) (fun f cdv A outer s H vs Q E hr h tk => ?_)
  · obtain ⟨TT, p, a, rs, W, rfl, _⟩ := h
    rfl
  · obtain ⟨TT, p, a, rs, W, rfl, hA, hWt, hT, hW, hl, hg, htot, kb, kw, k⟩ := h
    refine ⟨_, (pss_cons (ps_expr (pe_okS (ok_check_one_can T) (hr.mono (by first | decide | omega)) rfl (fun σ => passAt tk σ) (pa_cons (pv 0) pa_nil)))
      (pss_cons (ps_expr (pe_okS (ok_check_weather T) (hr.mono (by first | decide | omega)) rfl (fun σ => passAt tk σ) (pa_cons (pv 0) (pa_cons (pv 1) pa_nil))))
      (pss_one (ps_ret (pe_ok (ok_tight_among T) (hr.mono (by first | decide | omega)) rfl pass0 (pa_cons (pv 1) (pa_cons (pe_ok (ok_span_counts T) (hr.mono (by first | decide | omega)) rfl pass0 (pa_cons (pv 0) pa_nil)) (pa_cons (pe_ok (ok_all_stretches T) (hr.mono (by first | decide | omega)) rfl pass0 (pa_cons (pe_okM0 (okm_Almanac_days T) (cl_Almanac T) (pv 0) (hr.mono (by first | decide | omega)) pass0) pa_nil)) pa_nil)))))))), ?_⟩
    refine ⟨_, rfl, p, TT, rs, rfl, hA, hl, fun hone H1 s1 => ?_, fun n r h1 h2 h3 => kb n ⟨r, h1, h2, h3⟩⟩
    have hA1 := hA.same s1
    have hW1 := hWt.same s1
    refine ⟨_, rfl, _, rfl, TT, p, a, rs, W, rfl, hA1, hW1, hT, hW, hl, hg, htot, fun hw H2 s2 => ?_, fun hw d H' s hd => kw hone hw d H' (s1.trans s) hd⟩
    have hlen : W.length = TT := by
      unfold wrongOf at hw
      by_cases c : W.length = TT
      · exact c
      · rw [if_neg c] at hw
        cases hw
    have hA2 := hA1.same s2
    obtain ⟨dx, l0, xs0, i1, i2, i3⟩ := id hA2
    refine ⟨_, rfl, _, rfl, TT, p, rs, rfl, hA2, hl, hT, hg, fun tb H3 htb s3 d3 => ?_⟩
    refine ⟨_, rfl, p, dx, _, rfl, s3 _ _ i1, af_no (by decide +kernel) (by decide +kernel), p, TT, rs, rfl, hA2.same s3, TT, rfl, hT, fun l xs H4 s4 hl4 g4 hP => ?_⟩
    have e4 := s1.trans (s2.trans (s3.trans s4))
    refine ⟨TT, a, tb, l, xs, W, _, rfl, hWt.same e4, hlen, hT, s4 _ _ d3, g4, hP, fun q ys H5 hq s5 g5 hP5 => ?_⟩
    exact k hone hw q ys H5 (none_of e4 hq) (e4.trans s5) g5 hP5
end
end K26
end
section
set_option maxRecDepth 100000
set_option maxHeartbeats 4000000
namespace K26
open PySem PySem.Spec PyProof.Rows L2
def canR (c : Int × Int) : Q4 := (c.1, c.2, 1, 1)
def inT (ws : List (Int × Int)) (a b : Int) (c : Int × Int) : Bool := !(decide ((ws.getD (c.1 - 1).toNat (0, 0)).1 ≤ a) || decide (b < (ws.getD (c.1 - 1).toNat (0, 0)).2))
/-- every fall of these days is one of a span within -/
def isT (ws : List (Int × Int)) (W : List (List (Int × Int))) (a b : Nat) : Bool := (List.range (b - a)).all fun k => (W.getD (a + k) []).all (inT ws (a : Int) (b : Int))
section
variable {P : Program} {w : World} {K : PySem.W.Frag} {mg : Str → Option Value} {base : Heap}
def spCanR : Sp := fun vs H Q _ => ∃ (l : Addr) (xs : List V) (ws : List (Int × Int)), vs = [.ref l] ∧ H l = some (.lst xs) ∧ Paired (PairT H) xs ws ∧ ws.length ≤ 40 ∧ ∀ p ys H', H p = none → Same H H' → H' p = some (.lst ys) → Paired (QuadT H') ys (ws.map canR) → Q (.ref p) H'
theorem ok__law_can_rains (T : Txt w K mg) : Ok P w K mg base CX0 1 "_law_can_rains" ["spans"] spCanR := by
  refine Ok.def0 (f__law_can_rains T) (fun _ _ _ _ _ _ us hl => match us, hl with | [_], _ => rfl) sc__law_can_rains (fun vs H Q E h => ?_) (fun f cdv A outer s H vs Q E hr h => ?_)
  · obtain ⟨l, xs, ws, rfl, _⟩ := h
    rfl
  · obtain ⟨l, xs, ws, rfl, hl, hP, hw, k⟩ := h
    refine ⟨_, (pss_one (ps_ret (pe_lc (own := [("span", 1)]) rfl sc__law_can_rains.nd (pi_listK (K := K) rfl (pv 0)) (blkOk_by (N := ["spans", "span"]) (sc := defScope s__law_can_rains) (by decide +kernel)) (fun _ _ _ _ _ => (pg_name (i := 1) sc__law_can_rains.nd rfl (by first | exact Or.inl rfl | exact Or.inr rfl))) (fun _ _ _ _ _ => pts_nil) (fun _ _ _ _ _ => (pe_tup (pa_cons (pe_ix (ix_seqK (K := K) rfl) (pv 1) pe_int (fun _ _ => rfl)) (pa_cons (pe_ix (ix_seqK (K := K) rfl) (pv 1) pe_int (fun _ _ => rfl)) (pa_cons pe_int (pa_cons pe_int pa_nil))))))))), ?_⟩
    have hxl : xs.length ≤ 40 := by rw [Paired.length hP]; exact hw
    refine ⟨_, rfl, l, rfl, ⟨_, SqL.of hl⟩, fun D hD => lc_acc (K := K) (a := l) (xs := xs) hD (SqL.of hl) (by omega) (fun j acc H' => Paired (QuadT H') acc ((ws.take j).map canR)) (fun _ _ => .nil) ?_ ?_⟩
    · rintro j x acc H2 N N0 hx s2 hacc hI hN hN0
      obtain ⟨c, hc, hr⟩ := paired_get hP hx
      have hr := hr.same s2
      refine gnE ⟨rfl, ?_⟩
      refine ⟨_, rfl, hr.i0 ⟨_, rfl, hr.i1 ⟨(by show 4 ≤ sizeLine; decide), fun t ht => ?_⟩⟩⟩
      obtain ⟨s3, g3⟩ := new2 (.tup [.int c.1, .int c.2, .int 1, .int 1]) ht
      have hacc3 := s3 _ _ hacc
      have tD : t ≠ D := fun z => by rw [z, hacc] at ht; cases ht
      refine hN _ _ s3 fun H5 b5 _ => ?_
      rw [take_get hc, List.map_append]
      refine Paired.snoc (Paired.mapP hI fun _ _ z => ?_) ⟨t, rfl, b5 _ _ g3 tD⟩
      obtain ⟨u, rfl, h⟩ := z.same s3
      exact ⟨u, rfl, b5 _ _ h fun z => by rw [z, s3 _ _ hacc] at h; cases h⟩
    · rintro acc H2 s2 hacc _ hI
      rw [Paired.length hP, List.take_length] at hI
      exact k D acc H2 hD s2 hacc hI
def spIsT : Sp := fun vs H Q _ => ∃ (l wa : Addr) (xs : List V) (ws : List (Int × Int)) (W : List (List (Int × Int))) (a b : Nat), vs = [.ref l, .ref wa, .int a, .int b] ∧ H l = some (.lst xs) ∧ Paired (PairT H) xs ws ∧ WeaT H wa W ∧ a ≤ b ∧ b ≤ W.length ∧ W.length ≤ 24 ∧ (∀ rep ∈ W, ∀ c ∈ rep, 1 ≤ c.1 ∧ c.1 ≤ (ws.length : Int)) ∧ ∀ H', Same H H' → Q (.bl (isT ws W a b)) H'
theorem ok__law_is_tight (T : Txt w K mg) : Ok P w K mg base CX0 1 "_law_is_tight" ["spans", "weather", "a", "b"] spIsT := by
  refine Ok.def0 (f__law_is_tight T) (fun _ _ _ _ _ _ us hl => match us, hl with | [_, _, _, _], _ => rfl) sc__law_is_tight (fun vs H Q E h => ?_) (fun f cdv A outer s H vs Q E hr h => ?_)
  · obtain ⟨l, wa, xs, ws, W, a, b, rfl, _⟩ := h
    rfl
  · obtain ⟨l, wa, xs, ws, W, a, b, rfl, hl, hP, ⟨ys, w1, w2⟩, hab, hb, hW, hin, k⟩ := h
    refine ⟨_, (pss_cons (ps_for PassesOwn.never rfl (pi_range2 rfl (n_range T) (pa_cons (pv 2) (pa_cons (pv 3) pa_nil))) (pg_name (i := 4) sc__law_is_tight.nd rfl (by first | exact Or.inl rfl | exact Or.inr rfl))
        (pss_one (ps_for PassesOwn.never rfl (pi_listK (K := K) rfl (pe_ix (ix_listK (K := K) rfl) (pv 1) (pv 4) (fun _ _ => rfl))) (pg_name (i := 5) sc__law_is_tight.nd rfl (by first | exact Or.inl rfl | exact Or.inr rfl))
        (pss_cons (ps_set (i := 6) sc__law_is_tight.nd rfl (by first | exact Or.inl rfl | exact Or.inr rfl) (pe_ix (ix_listK (K := K) rfl) (pv 0) (pe_op op_sub (pe_ix (ix_seqK (K := K) rfl) (pv 5) pe_int (fun _ _ => rfl)) pe_int) (fun _ _ => rfl)))
      (pss_one (ps_if (PW.pt (pw_or (pt_cmpR op_le (pe_ix (ix_seqK (K := K) rfl) (pv 6) pe_int (fun _ _ => rfl)) (pv 2) (nomark _)) (pw_or1 (pt_cmpR op_gt (pe_ix (ix_seqK (K := K) rfl) (pv 6) pe_int (fun _ _ => rfl)) (pv 3) (nomark _))))) (pss_one (ps_ret pe_bl)) pss_nil))))))
      (pss_one (ps_ret pe_bl))), ?_⟩
    have hyl : ys.length = W.length := Paired.length w2
    have hxl : xs.length = ws.length := Paired.length hP
    refine ⟨_, rfl, _, rfl, _, _, rfl, by omega, for_upto (lo := (a : Int)) (L := b - a) (by omega) (fun i σ H' => ∃ v4 v5 v6, σ = [some (.ref l), some (.ref wa), some (.int a), some (.int b), v4, v5, v6] ∧ H' = H ∧ ∀ k, k < i → (W.getD (a + k) []).all (inT ws (a : Int) (b : Int)) = true) ⟨_, _, _, rfl, rfl, fun k h => by omega⟩ ?_ ?_⟩
    · rintro i σ H1 hi ⟨v4, v5, v6, rfl, rfl, hlt⟩
      have z1 : (a : Int) + (i : Int) = ((a + i : Nat) : Int) := by omega
      rw [z1]
      refine gnE ?_
      obtain ⟨rep, hrep⟩ : ∃ rep, W[a + i]? = some rep := ⟨W[a + i]'(by omega), List.getElem?_eq_getElem _⟩
      obtain ⟨x, hx⟩ : ∃ x, ys[a + i]? = some x := ⟨ys[a + i]'(by omega), List.getElem?_eq_getElem _⟩
      obtain ⟨rep', hrep', l2, zs, rfl, r1, r2⟩ := paired_get w2 hx
      rw [hrep] at hrep'
      cases hrep'
      have ew : W.getD (a + i) [] = rep := by rw [List.getD_eq_getElem?_getD, hrep]; rfl
      have hinr := hin rep (List.mem_of_getElem? hrep)
      refine ⟨_, rfl, _, rfl, wa, ys, _, _, rfl, rfl, SqL.of w1, at_of rfl hx, l2, rfl, ⟨_, SqL.of r1⟩, for_list (K := K) (a := l2) (xs := zs) (fun j σ H' => ∃ v5 v6, σ = [some (.ref l), some (.ref wa), some (.int a), some (.int b), some (.int ((a + i : Nat) : Int)), v5, v6] ∧ H' = H1 ∧ ∀ c ∈ rep.take j, inT ws (a : Int) (b : Int) c = true) ⟨_, _, rfl, rfl, fun c h => by simp at h⟩ (fun _ _ _ _ h => ?_) ?_ ?_⟩
      · obtain ⟨_, _, _, e, _⟩ := h
        rw [e]
        exact SqL.of r1
      · rintro j x σ H3 hx3 ⟨v5, v6, rfl, rfl, hlt3⟩
        obtain ⟨c, hc, hr⟩ := paired_get r2 hx3
        have hci := hinr c (List.mem_of_getElem? hc)
        obtain ⟨n, hn⟩ : ∃ n : Nat, c.1 = (n : Int) + 1 := ⟨(c.1 - 1).toNat, by omega⟩
        obtain ⟨r, hr4⟩ : ∃ r, ws[n]? = some r := ⟨ws[n]'(by omega), List.getElem?_eq_getElem _⟩
        obtain ⟨y, hy⟩ : ∃ y, xs[n]? = some y := ⟨xs[n]'(by omega), List.getElem?_eq_getElem _⟩
        obtain ⟨r', hr', hq⟩ := paired_get hP hy
        rw [hr4] at hr'
        cases hr'
        have eg : ws.getD (c.1 - 1).toNat (0, 0) = r := by
          have : (c.1 - 1).toNat = n := by omega
          rw [this, List.getD_eq_getElem?_getD, hr4]
          rfl
        have ei : inT ws (a : Int) (b : Int) c = !(decide (r.1 ≤ (a : Int)) || decide ((b : Int) < r.2)) := by unfold inT; rw [eg]
        have bad : inT ws (a : Int) (b : Int) c = false → Q (.bl false) H3 := fun q => by
          have : isT ws W a b = false := by
            rw [Bool.eq_false_iff]
            intro z
            have := List.all_eq_true.mp z i (List.mem_range.mpr (by omega))
            rw [ew] at this
            have := List.all_eq_true.mp this c (List.mem_of_getElem? hc)
            rw [q] at this
            cases this
          rw [this] at k
          exact k _ (Same.refl _)
        refine gnE ?_
        refine ⟨_, rfl, _, rfl, hr.i0 ⟨_, _, rfl, rfl, l, xs, _, y, rfl, rfl, SqL.of hl, at_of (by omega) hy, ?_⟩⟩
        refine ⟨_, rfl, hq.i0 ⟨_, rfl, _, _, rfl, rfl, _, rfl, ?_⟩⟩
        cases t1 : decide (r.1 ≤ (a : Int)) with
        | true => exact bad (by rw [ei, t1]; rfl)
        | false =>
          refine ⟨_, rfl, hq.i1 ⟨_, rfl, _, _, rfl, rfl, _, rfl, ?_⟩⟩
          cases t2 : decide ((b : Int) < r.2) with
          | true => exact bad (by rw [ei, t1, t2]; rfl)
          | false =>
            refine ⟨_, _, rfl, rfl, fun d hd => ?_⟩
            rw [take_get hc] at hd
            rcases List.mem_append.mp hd with hd | hd
            · exact hlt3 d hd
            · rw [List.mem_singleton.mp hd, ei, t1, t2]
              rfl
      · rintro σ H3 ⟨v5, v6, rfl, rfl, hlt3⟩
        rw [Paired.length r2, List.take_length] at hlt3
        refine ⟨_, _, _, rfl, rfl, fun q hq => ?_⟩
        by_cases eq : q = i
        · rw [eq, ew]
          exact List.all_eq_true.mpr hlt3
        · exact hlt q (by omega)
    · rintro σ H1 ⟨v4, v5, v6, rfl, rfl, hlt⟩
      have : isT ws W a b = true := List.all_eq_true.mpr fun q hq => hlt q (List.mem_range.mp hq)
      rw [this] at k
      exact k _ (Same.refl _)
end
end K26
end
section
set_option maxRecDepth 100000
set_option maxHeartbeats 4000000
namespace K26
open PySem PySem.Spec PyProof.Rows L2
/-! ### a stretch is tight if and only if each of its falls is one of a span within -/
theorem len_sub {l : List Int} : ∀ {m : List Int}, l.Nodup → (∀ x ∈ l, x ∈ m) → l.length ≤ m.length := by
  induction l with
  | nil => intro m _ _; exact Nat.zero_le _
  | cons x l ih =>
    intro m hn hs
    rw [List.nodup_cons] at hn
    have hx := hs x List.mem_cons_self
    have := ih (m := m.erase x) hn.2 fun y hy => by
      have hne : y ≠ x := fun z => hn.1 (by rw [← z]; exact hy)
      exact (List.mem_erase_of_ne hne).mpr (hs y (List.mem_cons_of_mem _ hy))
    rw [List.length_erase_of_mem hx] at this
    have : 0 < m.length := List.length_pos_of_mem hx
    rw [List.length_cons]
    omega
theorem eq_sub {l m : List Int} (hl : l.Nodup) (hm : m.Nodup) (h : ∀ x ∈ l, x ∈ m) (e : l.length = m.length) : ∀ x ∈ m, x ∈ l := fun x hx => by
  by_cases c : x ∈ l
  · exact c
  · have := len_sub (l := x :: l) (m := m) (List.nodup_cons.mpr ⟨c, hl⟩) fun y hy => by
      rcases List.mem_cons.mp hy with rfl | hy
      · exact hx
      · exact h y hy
    rw [List.length_cons] at this
    omega
def nums (W : List (List (Int × Int))) : List Int := W.flatten.map Prod.fst
theorem nums_app {a b : List (List (Int × Int))} : nums (a ++ b) = nums a ++ nums b := by unfold nums; rw [List.flatten_append, List.map_append]
theorem falls_ok {rs : List Q4} {d : Int} : ∀ {rep : List (Int × Int)} {b : Int} {g g' : List Int}, 0 ≤ b → falls rs d b g rep = some g' →
    g' = g ++ rep.map Prod.fst ∧ (g.Nodup → g'.Nodup) ∧ ∀ c ∈ rep, 1 ≤ c.1 ∧ c.1 ≤ (rs.length : Int) ∧ okR (rs.getD (c.1 - 1).toNat (0, 0, 0, 0)) d c.2 = true
  | [], b, g, g', _, h => by
    cases h
    exact ⟨by simp, fun h => h, fun c hc => by cases hc⟩
  | c :: r, b, g, g', hb, h => by
    unfold falls at h
    split at h
    · rename_i ho
      unfold okF at ho
      simp only [Bool.and_eq_true, decide_eq_true_eq, Bool.not_eq_true', decide_eq_false_iff_not] at ho
      obtain ⟨h1, h2, h3, h4⟩ := ho
      obtain ⟨e, n, k⟩ := falls_ok (by omega) h
      refine ⟨by rw [e, List.map_cons, List.append_assoc]; rfl, fun hg => n ?_, fun c' hc => ?_⟩
      · rw [List.nodup_append]
        refine ⟨hg, by simp, fun x hx y hy => ?_⟩
        rw [List.mem_singleton.mp hy]
        exact fun z => h3 (by rw [← z]; exact hx)
      · rcases List.mem_cons.mp hc with rfl | hc
        · exact ⟨by omega, h2, h4⟩
        · exact k c' hc
    · cases h
theorem first_ok {rs : List Q4} : ∀ {W : List (List (Int × Int))} {k : Int} {g : List Int}, 1 ≤ k → firstBad rs k g W = 0 → g.Nodup →
    (g ++ nums W).Nodup ∧ (∀ (i : Nat) (rep : List (Int × Int)), W[i]? = some rep → ∀ c ∈ rep, 1 ≤ c.1 ∧ c.1 ≤ (rs.length : Int) ∧ okR (rs.getD (c.1 - 1).toNat (0, 0, 0, 0)) (k + (i : Int)) c.2 = true) ∧
    ∀ i, i < W.length → ∀ q, q < rs.length → (rs.getD q (0, 0, 0, 0)).2.1 ≤ k + (i : Int) → ((q : Int) + 1) ∈ g ++ nums (W.take (i + 1))
  | [], k, g, _, _, hg => ⟨by unfold nums; simpa using hg, fun i rep h => by simp at h, fun i h => by simp at h⟩
  | rep :: W, k, g, hk, h, hg => by
    have hst : firstBad rs k g (rep :: W) = match dayStep rs k g rep with
      | none => k
      | some g' => firstBad rs (k + 1) g' W := rfl
    rw [hst] at h
    unfold dayStep at h
    cases hf : falls rs k 0 g rep with
    | none =>
      rw [hf] at h
      have h : k = 0 := h
      omega
    | some g' =>
      rw [hf] at h
      obtain ⟨e, n, kk⟩ := falls_ok (Int.le_refl 0) hf
      cases hd : dueBad rs k g' with
      | true =>
        have h : (match (if dueBad rs k g' = true then none else some g' : Option (List Int)) with
          | none => k
          | some g' => firstBad rs (k + 1) g' W) = 0 := h
        rw [if_pos hd] at h
        have h : k = 0 := h
        omega
      | false =>
        have h : (match (if dueBad rs k g' = true then none else some g' : Option (List Int)) with
          | none => k
          | some g' => firstBad rs (k + 1) g' W) = 0 := h
        rw [if_neg (by rw [hd]; decide)] at h
        have h : firstBad rs (k + 1) g' W = 0 := h
        obtain ⟨p1, p2, p3⟩ := first_ok (by omega) h (n hg)
        have en : ∀ V, g' ++ nums V = g ++ nums (rep :: V) := fun V => by
          rw [e, List.append_assoc]
          congr 1
          unfold nums
          rw [List.flatten_cons, List.map_append]
        refine ⟨by rw [← en]; exact p1, fun i rep' hi c hc => ?_, fun i hi q hq hl => ?_⟩
        · cases i with
          | zero =>
            have : rep = rep' := by simpa using hi
            rw [← this] at hc
            have := kk c hc
            rw [show k + ((0 : Nat) : Int) = k by omega]
            exact this
          | succ i =>
            have := p2 i rep' (by simpa using hi) c hc
            rw [show k + ((i + 1 : Nat) : Int) = k + 1 + (i : Int) by omega]
            exact this
        · cases i with
          | zero =>
            have hno : late rs k g' q = false := by
              unfold dueBad at hd
              rw [List.any_eq_false] at hd
              exact Bool.eq_false_iff.mpr (hd q (List.mem_range.mpr hq))
            unfold late at hno
            rw [decide_eq_true (by omega)] at hno
            have : ((q : Int) + 1) ∈ g' := by simpa using hno
            rw [List.take_succ_cons, ← en]
            exact List.mem_append_left _ this
          | succ i =>
            rw [List.take_succ_cons, ← en]
            rw [List.length_cons] at hi
            exact p3 i (by omega) q hq (by omega)
end K26
end
section
set_option maxRecDepth 100000
set_option maxHeartbeats 4000000
namespace K26
open PySem PySem.Spec PyProof.Rows L2
theorem flt_range {p : Q4 → Bool} {z : Q4} : ∀ rs : List Q4, (rs.filter p).length = ((List.range rs.length).filter fun q => p (rs.getD q z)).length
  | [] => rfl
  | r :: rs => by
    rw [List.length_cons, List.range_succ_eq_map, List.filter_cons, List.filter_cons, List.filter_map]
    have ih := flt_range (p := p) (z := z) rs
    have e : ((fun q => p ((r :: rs).getD q z)) ∘ Nat.succ) = fun q => p (rs.getD q z) := by
      funext q
      simp [Function.comp]
    have e0 : p ((r :: rs).getD 0 z) = p r := by simp
    rw [e0]
    split
    · rw [List.length_cons, List.length_cons, List.length_map, e, ih]
    · rw [List.length_map, e, ih]
theorem wsum_ones : ∀ {L : List (List (Int × Int))}, (∀ rep ∈ L, ∀ c ∈ rep, c.2 = 1) → wsum L = ((nums L).length : Int)
  | [], _ => rfl
  | rep :: L, h => by
    have ih := wsum_ones (L := L) fun r hr => h r (List.mem_cons_of_mem _ hr)
    have h0 := h rep List.mem_cons_self
    have : ∀ {rep : List (Int × Int)}, (∀ c ∈ rep, c.2 = 1) → rsum rep = (rep.length : Int) := fun {rep} => by
      induction rep with
      | nil => intro _; rfl
      | cons c r ih =>
        intro h
        show c.2 + rsum r = _
        rw [h c List.mem_cons_self, ih fun c hc => h c (List.mem_cons_of_mem _ hc), List.length_cons]
        omega
    show rsum rep + wsum L = _
    rw [this h0, ih]
    unfold nums
    rw [List.flatten_cons, List.map_append, List.length_append, List.length_map (as := rep), Int.natCast_add]
theorem canR_get {ws : List (Int × Int)} {q : Nat} (h : q < ws.length) : (ws.map canR).getD q (0, 0, 0, 0) = canR (ws.getD q (0, 0)) := by
  rw [List.getD_eq_getElem?_getD, List.getD_eq_getElem?_getD, List.getElem?_map, List.getElem?_eq_getElem h]
  rfl
def withinL (ws : List (Int × Int)) (a b : Nat) : List Int := ((List.range ws.length).filter fun q => decide ((a : Int) < ((ws.map canR).getD q (0, 0, 0, 0)).1) && decide (((ws.map canR).getD q (0, 0, 0, 0)).2.1 ≤ (b : Int))).map fun (q : Nat) => (q : Int) + 1
theorem withinL_len {ws : List (Int × Int)} {a b : Nat} : ((withinL ws a b).length : Int) = tabR (ws.map canR) a b := by
  unfold withinL tabR cN
  rw [List.length_map, flt_range (z := (0, 0, 0, 0)) (ws.map canR), List.length_map]
theorem withinL_nodup {ws : List (Int × Int)} {a b : Nat} : (withinL ws a b).Nodup := by
  unfold withinL
  refine List.pairwise_map.mpr (List.Pairwise.imp (R := fun x y => x ≠ y) (fun {x y : Nat} h (z : (x : Int) + 1 = (y : Int) + 1) => h (by omega)) ?_)
  exact List.Pairwise.filter _ List.nodup_range
theorem withinL_mem {ws : List (Int × Int)} {a b q : Nat} (hq : q < ws.length) : ((q : Int) + 1) ∈ withinL ws a b ↔ ((a : Int) < (ws.getD q (0, 0)).1 ∧ (ws.getD q (0, 0)).2 ≤ (b : Int)) := by
  unfold withinL
  rw [List.mem_map]
  constructor
  · rintro ⟨p, hp, e⟩
    have : p = q := by omega
    rw [this] at hp
    have := (List.mem_filter.mp hp).2
    rw [canR_get hq] at this
    simpa [canR] using this
  · rintro ⟨h1, h2⟩
    refine ⟨q, List.mem_filter.mpr ⟨List.mem_range.mpr hq, ?_⟩, rfl⟩
    rw [canR_get hq]
    simpa [canR] using ⟨h1, h2⟩
theorem nums_mem {W : List (List (Int × Int))} {x : Int} : x ∈ nums W ↔ ∃ (i : Nat) (rep : List (Int × Int)), W[i]? = some rep ∧ ∃ c ∈ rep, c.1 = x := by
  unfold nums
  rw [List.mem_map]
  constructor
  · rintro ⟨c, hc, rfl⟩
    obtain ⟨rep, hr, hc⟩ := List.mem_flatten.mp hc
    obtain ⟨i, hi⟩ := List.getElem?_of_mem hr
    exact ⟨i, rep, hi, c, hc, rfl⟩
  · rintro ⟨i, rep, hi, c, hc, rfl⟩
    exact ⟨c, List.mem_flatten.mpr ⟨rep, List.mem_of_getElem? hi, hc⟩, rfl⟩
theorem tight_is {ws : List (Int × Int)} {W : List (List (Int × Int))} {a b : Nat} (h : firstBad (ws.map canR) 1 [] W = 0) (hab : a ≤ b) (hb : b ≤ W.length) (hg : ∀ r ∈ ws.map canR, GoodR r) :
    decide (fellBy W b - fellBy W a = tabR (ws.map canR) a b) = isT ws W a b := by
  obtain ⟨p1, p2, p3⟩ := first_ok (by omega) h List.nodup_nil
  rw [List.nil_append] at p1
  have hn : (ws.map canR).length = ws.length := List.length_map _
  have ones : ∀ (i : Nat) (rep : List (Int × Int)), W[i]? = some rep → ∀ c ∈ rep, c.2 = 1 ∧ ∃ q : Nat, q < ws.length ∧ c.1 = (q : Int) + 1 ∧ (ws.getD q (0, 0)).1 ≤ 1 + (i : Int) ∧ 1 + (i : Int) ≤ (ws.getD q (0, 0)).2 := fun i rep hi c hc => by
    obtain ⟨h1, h2, h3⟩ := p2 i rep hi c hc
    rw [hn] at h2
    have hq : (c.1 - 1).toNat < ws.length := by omega
    rw [canR_get hq] at h3
    unfold okR canR at h3
    simp only [Bool.and_eq_true, decide_eq_true_eq] at h3
    exact ⟨by omega, (c.1 - 1).toNat, hq, by omega, h3.1, h3.2.1⟩
  have eT : W.take b = W.take a ++ (W.take b).drop a := by
    have := List.take_append_drop a (W.take b)
    rw [List.take_take, Nat.min_eq_left hab] at this
    exact this.symm
  have hL : ∀ {i : Nat} {rep : List (Int × Int)}, ((W.take b).drop a)[i]? = some rep → W[a + i]? = some rep ∧ a + i < b := fun {i rep} hi => by
    rw [List.getElem?_drop, List.getElem?_take] at hi
    split at hi
    · rename_i lt
      exact ⟨hi, lt⟩
    · cases hi
  have onesL : ∀ rep ∈ (W.take b).drop a, ∀ c ∈ rep, c.2 = 1 := fun rep hr c hc => by
    obtain ⟨i, hi⟩ := List.getElem?_of_mem hr
    exact (ones _ rep (hL hi).1 c hc).1
  have ef : fellBy W b - fellBy W a = ((nums ((W.take b).drop a)).length : Int) := by
    have e1 : fellBy W b = wsum (W.take a) + wsum ((W.take b).drop a) := by
      rw [← wsum_app, ← eT]
      rfl
    rw [e1, wsum_ones onesL]
    unfold fellBy
    omega
  have nodL : (nums ((W.take b).drop a)).Nodup := by
    rw [← List.take_append_drop b W, eT, nums_app, nums_app] at p1
    exact (List.nodup_append.mp (List.nodup_append.mp p1).1).2.1
  have subW : ∀ x ∈ withinL ws a b, x ∈ nums ((W.take b).drop a) := fun x hx => by
    obtain ⟨q, hq, rfl⟩ : ∃ q : Nat, q < ws.length ∧ x = (q : Int) + 1 := by
      unfold withinL at hx
      obtain ⟨q, hq, e⟩ := List.mem_map.mp hx
      exact ⟨q, List.mem_range.mp (List.mem_filter.mp hq).1, e.symm⟩
    obtain ⟨h1, h2⟩ := (withinL_mem hq).mp hx
    have hgq : GoodR (canR (ws.getD q (0, 0))) := by
      have : canR (ws.getD q (0, 0)) ∈ ws.map canR := by
        rw [List.getD_eq_getElem?_getD, List.getElem?_eq_getElem hq]
        exact List.mem_map.mpr ⟨ws[q], List.getElem_mem hq, rfl⟩
      exact hg _ this
    unfold GoodR canR at hgq
    have hgq1 : 1 ≤ (ws.getD q (0, 0)).1 := hgq.1
    have hgq2 : (ws.getD q (0, 0)).1 ≤ (ws.getD q (0, 0)).2 := hgq.2.1
    obtain ⟨y, hy⟩ : ∃ y : Nat, (ws.getD q (0, 0)).2 = (y : Int) + 1 := ⟨((ws.getD q (0, 0)).2 - 1).toNat, by omega⟩
    have := p3 y (by omega) q (by omega) (by rw [canR_get hq]; show (ws.getD q (0, 0)).2 ≤ _; omega)
    rw [List.nil_append] at this
    obtain ⟨i, rep, hi, c, hc, ec⟩ := nums_mem.mp this
    rw [List.getElem?_take] at hi
    split at hi
    · rename_i lt
      obtain ⟨_, q', hq', e', l1, l2⟩ := ones i rep hi c hc
      have : q' = q := by omega
      rw [this] at l1 l2
      refine nums_mem.mpr ⟨i - a, rep, ?_, c, hc, ec⟩
      rw [List.getElem?_drop, List.getElem?_take, if_pos (by omega), show a + (i - a) = i by omega]
      exact hi
    · cases hi
  rw [ef, ← withinL_len]
  have key : isT ws W a b = true ↔ ∀ x ∈ nums ((W.take b).drop a), x ∈ withinL ws a b := by
    unfold isT
    rw [List.all_eq_true]
    constructor
    · intro z x hx
      obtain ⟨i, rep, hi, c, hc, rfl⟩ := nums_mem.mp hx
      obtain ⟨hi1, hi2⟩ := hL hi
      have := z i (List.mem_range.mpr (by omega))
      rw [List.getD_eq_getElem?_getD, hi1] at this
      have := List.all_eq_true.mp this c hc
      obtain ⟨_, q, hq, e, _, _⟩ := ones _ rep hi1 c hc
      rw [e, withinL_mem hq]
      unfold inT at this
      rw [show (c.1 - 1).toNat = q by omega] at this
      simp only [Bool.not_eq_true', Bool.or_eq_false_iff, decide_eq_false_iff_not] at this
      omega
    · intro z k hk
      have hk := List.mem_range.mp hk
      obtain ⟨rep, hrep⟩ : ∃ rep, W[a + k]? = some rep := ⟨W[a + k]'(by omega), List.getElem?_eq_getElem _⟩
      rw [List.getD_eq_getElem?_getD, hrep]
      refine List.all_eq_true.mpr fun c hc => ?_
      have := z c.1 (nums_mem.mpr ⟨k, rep, by rw [List.getElem?_drop, List.getElem?_take, if_pos (by omega)]; exact hrep, c, hc, rfl⟩)
      obtain ⟨_, q, hq, e, _, _⟩ := ones _ rep hrep c hc
      rw [e, withinL_mem hq] at this
      unfold inT
      rw [show (c.1 - 1).toNat = q by omega]
      simp only [Bool.not_eq_true', Bool.or_eq_false_iff, decide_eq_false_iff_not]
      omega
  rw [Bool.eq_iff_iff, decide_eq_true_eq, key]
  constructor
  · intro e
    exact eq_sub withinL_nodup nodL subW (by omega)
  · intro s
    have h1 := len_sub nodL s
    have h2 := len_sub withinL_nodup subW
    omega
end K26
end
section
set_option maxRecDepth 100000
set_option maxHeartbeats 4000000
namespace K26
open PySem PySem.Spec PyProof.Rows L2
/-! ### deep copies -/
def SeqOf {α : Type} (b : Bool) (R : Hp → V → α → Prop) (H : Hp) (v : V) (ds : List α) : Prop := ∃ a xs, v = .ref a ∧ H a = some (if b = true then .lst xs else .tup xs) ∧ Paired (R H) xs ds ∧ ds.length ≤ 3000
def spDp {α : Type} (R : Hp → V → α → Prop) : Sp := fun vs H Q _ => ∃ v d, vs = [v] ∧ R H v d ∧ ∀ v' H', Same H H' → R H' v' d → (∀ a, v' = .ref a → H a = none) → Q v' H'
section
variable {P : Program} {w : World} {K : PySem.W.Frag} {mg : Str → Option Value} {base : Heap}
def IntR (_ : Hp) (v : V) (n : Int) : Prop := v = .int n
theorem ok_dp0 (T : Txt w K mg) : Ok P w K mg base CX0 1 "_law_deep" ["thing"] (spDp IntR) := by
  have ok__law_deep : Txt w K mg → Ok P w K mg base CX0 0 "_law_deep" ["thing"] (fun _ _ _ _ => False) := fun T => Ok.never (f__law_deep T) (fun _ _ _ _ _ _ us hl => match us, hl with | [_], _ => rfl)
  refine Ok.def0 (f__law_deep T) (fun _ _ _ _ _ _ us hl => match us, hl with | [_], _ => rfl) sc__law_deep (fun vs H Q E h => ?_) (fun f cdv A outer s H vs Q E hr h => ?_)
  · obtain ⟨v, d, rfl, _⟩ := h
    rfl
  · obtain ⟨v, d, rfl, rfl, k⟩ := h
    refine ⟨_, (pss_cons (ps_if (pt_val (pe_callB (isiK (K := K) rfl) rfl (n_isinstance T) (by decide +kernel) (pa_cons (pv 0) (pa_cons (pe_bltn (v := .ty "list") (u := .type "list") rfl (n_list T) (by decide +kernel) rfl) pa_nil)))) (pss_one (ps_ret (pe_lc (own := [("one", 1)]) rfl sc__law_deep.nd (pi_listK (K := K) rfl (pv 0)) (blkOk_by (N := ["thing", "one"]) (sc := defScope s__law_deep) (by decide +kernel)) (fun _ _ _ _ _ => (pg_name (i := 1) sc__law_deep.nd rfl (by first | exact Or.inl rfl | exact Or.inr rfl))) (fun _ _ _ _ _ => pts_nil) (fun _ _ _ _ _ => (pe_ok (ok__law_deep T) (hr.mono (by first | decide | omega)) rfl pass0 (pa_cons (pv 1) pa_nil)))))) pss_nil)
      (pss_cons (ps_if (pt_val (pe_callB (isiK (K := K) rfl) rfl (n_isinstance T) (by decide +kernel) (pa_cons (pv 0) (pa_cons (pe_bltn (v := .ty "tuple") (u := .type "tuple") rfl (n_tuple T) (by decide +kernel) rfl) pa_nil)))) (pss_one (ps_ret (pe_callTy call_tuple_of rfl (n_tuple T) (by decide +kernel) (pa_cons (pe_lc (own := [("one", 1)]) rfl sc__law_deep.nd (pi_tupK (K := K) rfl (pv 0)) (blkOk_by (N := ["thing", "one"]) (sc := defScope s__law_deep) (by decide +kernel)) (fun _ _ _ _ _ => (pg_name (i := 1) sc__law_deep.nd rfl (by first | exact Or.inl rfl | exact Or.inr rfl))) (fun _ _ _ _ _ => pts_nil) (fun _ _ _ _ _ => (pe_ok (ok__law_deep T) (hr.mono (by first | decide | omega)) rfl pass0 (pa_cons (pv 1) pa_nil)))) pa_nil)))) pss_nil)
      (pss_one (ps_ret (pv 0))))), ?_⟩
    refine ⟨_, rfl, ⟨_, _, _, _, _, rfl, .ty _, tx_int _, k_il, _, rfl, iteF ?_⟩⟩
    refine ⟨_, rfl, ⟨_, _, _, _, _, rfl, .ty _, tx_int _, k_it, _, rfl, iteF ?_⟩⟩
    exact ⟨_, rfl, k _ _ (Same.refl _) rfl fun a e => by cases e⟩
theorem dp_gen {α : Type} {R : Hp → V → α → Prop} {n : Nat} (b : Bool) (T : Txt w K mg) (ok__law_deep : Txt w K mg → Ok P w K mg base CX0 n "_law_deep" ["thing"] (spDp R)) (hS : ∀ H H' v d, Same H H' → R H v d → R H' v d)
    (hB : ∀ H H' D acc v d, H D = some (.lst acc) → (∀ a, v = .ref a → a ≠ D) → But D H H' → R H v d → R H' v d) : Ok P w K mg base CX0 (n + 1) "_law_deep" ["thing"] (spDp (SeqOf b R)) := by
  refine Ok.def0 (f__law_deep T) (fun _ _ _ _ _ _ us hl => match us, hl with | [_], _ => rfl) sc__law_deep (fun vs H Q E h => ?_) (fun f cdv A outer s H vs Q E hr h => ?_)
  · obtain ⟨v, d, rfl, _⟩ := h
    rfl
  · obtain ⟨v, d, rfl, h, k⟩ := h
    refine ⟨_, (pss_cons (ps_if (pt_val (pe_callB (isiK (K := K) rfl) rfl (n_isinstance T) (by decide +kernel) (pa_cons (pv 0) (pa_cons (pe_bltn (v := .ty "list") (u := .type "list") rfl (n_list T) (by decide +kernel) rfl) pa_nil)))) (pss_one (ps_ret (pe_lc (own := [("one", 1)]) rfl sc__law_deep.nd (pi_listK (K := K) rfl (pv 0)) (blkOk_by (N := ["thing", "one"]) (sc := defScope s__law_deep) (by decide +kernel)) (fun _ _ _ _ _ => (pg_name (i := 1) sc__law_deep.nd rfl (by first | exact Or.inl rfl | exact Or.inr rfl))) (fun _ _ _ _ _ => pts_nil) (fun _ _ _ _ _ => (pe_ok (ok__law_deep T) (hr.mono (by first | decide | omega)) rfl pass0 (pa_cons (pv 1) pa_nil)))))) pss_nil)
      (pss_cons (ps_if (pt_val (pe_callB (isiK (K := K) rfl) rfl (n_isinstance T) (by decide +kernel) (pa_cons (pv 0) (pa_cons (pe_bltn (v := .ty "tuple") (u := .type "tuple") rfl (n_tuple T) (by decide +kernel) rfl) pa_nil)))) (pss_one (ps_ret (pe_callTy call_tuple_of rfl (n_tuple T) (by decide +kernel) (pa_cons (pe_lc (own := [("one", 1)]) rfl sc__law_deep.nd (pi_tupK (K := K) rfl (pv 0)) (blkOk_by (N := ["thing", "one"]) (sc := defScope s__law_deep) (by decide +kernel)) (fun _ _ _ _ _ => (pg_name (i := 1) sc__law_deep.nd rfl (by first | exact Or.inl rfl | exact Or.inr rfl))) (fun _ _ _ _ _ => pts_nil) (fun _ _ _ _ _ => (pe_ok (ok__law_deep T) (hr.mono (by first | decide | omega)) rfl pass0 (pa_cons (pv 1) pa_nil)))) pa_nil)))) pss_nil)
      (pss_one (ps_ret (pv 0))))), ?_⟩
    obtain ⟨a, xs, rfl, ha, hP, hz⟩ := h
    cases b with
    | true =>
      have ha : H a = some (.lst xs) := ha
      have hxl := Paired.length hP
      refine ⟨_, rfl, ⟨_, _, _, _, _, rfl, .ty _, tx_lst ha, k_ll, _, rfl, iteT ?_⟩⟩
      refine ⟨_, rfl, a, rfl, ⟨_, SqL.of ha⟩, fun D hD => lc_acc (K := K) (a := a) (xs := xs) hD (SqL.of ha) (by omega) (fun j acc H' => Paired (fun v d => R H' v d ∧ ∀ a, v = .ref a → a ≠ D) acc (d.take j)) (fun _ _ => .nil) ?_ ?_⟩
      · rintro j x acc H2 N N0 hx s2 hacc hI hN hN0
        obtain ⟨e, he, hr⟩ := paired_get hP hx
        refine gnE ⟨rfl, ?_⟩
        refine ⟨_, rfl, x, e, rfl, hS _ _ _ _ s2 hr, fun v' H3 s3 h3 hf => ?_⟩
        have hacc3 := s3 _ _ hacc
        have nD : ∀ a, v' = .ref a → a ≠ D := fun a e z => by
          have := hf a e
          rw [z, hacc] at this
          cases this
        refine hN _ _ s3 fun H5 b5 _ => ?_
        rw [take_get he]
        exact Paired.snoc (Paired.mapP hI fun _ _ z => ⟨hB _ _ D acc _ _ hacc3 z.2 b5 (hS _ _ _ _ s3 z.1), z.2⟩) ⟨hB _ _ D acc _ _ hacc3 nD b5 h3, nD⟩
      · rintro acc H2 s2 hacc _ hI
        rw [hxl, List.take_length] at hI
        exact k _ H2 s2 ⟨D, acc, rfl, hacc, Paired.mapP hI fun _ _ z => z.1, hz⟩ fun a e => by cases e; exact hD
    | false =>
      have ha : H a = some (.tup xs) := ha
      have hxl := Paired.length hP
      refine ⟨_, rfl, ⟨_, _, _, _, _, rfl, .ty _, tx_tup ha, k_tl, _, rfl, iteF ?_⟩⟩
      refine ⟨_, rfl, ⟨_, _, _, _, _, rfl, .ty _, tx_tup ha, k_tt, _, rfl, iteT ?_⟩⟩
      refine ⟨_, rfl, a, rfl, ⟨_, SqT.of ha⟩, fun D hD => lc_accT (K := K) (a := a) (xs := xs) hD (SqT.of ha) (by omega) (fun j acc H' => Paired (fun v d => R H' v d ∧ ∀ a, v = .ref a → a ≠ D) acc (d.take j)) (fun _ _ => .nil) ?_ ?_⟩
      · rintro j x acc H2 N N0 hx s2 hacc hI hN hN0
        obtain ⟨e, he, hr⟩ := paired_get hP hx
        refine gnE ⟨rfl, ?_⟩
        refine ⟨_, rfl, x, e, rfl, hS _ _ _ _ s2 hr, fun v' H3 s3 h3 hf => ?_⟩
        have hacc3 := s3 _ _ hacc
        have nD : ∀ a, v' = .ref a → a ≠ D := fun a e z => by
          have := hf a e
          rw [z, hacc] at this
          cases this
        refine hN _ _ s3 fun H5 b5 _ => ?_
        rw [take_get he]
        exact Paired.snoc (Paired.mapP hI fun _ _ z => ⟨hB _ _ D acc _ _ hacc3 z.2 b5 (hS _ _ _ _ s3 z.1), z.2⟩) ⟨hB _ _ D acc _ _ hacc3 nD b5 h3, nD⟩
      · rintro acc H2 s2 hacc _ hI
        rw [hxl, List.take_length] at hI
        refine ⟨D, acc, rfl, .inl ⟨SqL.of hacc, fun l hl => ?_⟩⟩
        obtain ⟨s3, g3⟩ := new2 (.tup acc) hl
        exact k _ _ (s2.trans s3) ⟨l, acc, rfl, g3, Paired.mapP hI fun _ _ z => hS _ _ _ _ s3 z.1, hz⟩ fun a e => by cases e; exact none_of s2 hl
theorem ok_dp1 (T : Txt w K mg) : Ok P w K mg base CX0 2 "_law_deep" ["thing"] (spDp PairT) :=
  (dp_gen (n := 1) false T (fun T => ok_dp0 T) (fun _ _ _ _ _ h => h) (fun _ _ _ _ _ _ _ _ _ h => h)).imp fun vs H Q E ⟨v, c, e, ⟨t, ev, ht⟩, k⟩ => ⟨v, [c.1, c.2], e, ⟨t, [.int c.1, .int c.2], ev, ht, .cons rfl (.cons rfl .nil), by show 2 ≤ 3000; decide⟩, fun v' H' s ⟨a, xs, e', h', p', _⟩ hf => k v' H' s (by
    cases p' with
    | cons x p => cases p with
      | cons y p => cases p with
        | nil =>
          rw [show _ = V.int c.1 from x, show _ = V.int c.2 from y] at h'
          exact ⟨a, e', h'⟩) hf⟩
theorem ok_dp2 (T : Txt w K mg) : Ok P w K mg base CX0 3 "_law_deep" ["thing"] (spDp (SeqOf true PairT)) :=
  dp_gen (n := 2) true T (fun T => ok_dp1 T) (fun _ _ _ _ e h => h.same e) (fun _ _ _ _ _ _ hD _ b h => h.but hD b)
theorem ok_dp3 (T : Txt w K mg) : Ok P w K mg base CX0 4 "_law_deep" ["thing"] (spDp (SeqOf true (SeqOf true PairT))) :=
  dp_gen (n := 3) true T (fun T => ok_dp2 T) (fun _ _ _ _ e ⟨a, xs, e1, h, p, z⟩ => ⟨a, xs, e1, e _ _ h, Paired.mapP p fun _ _ q => q.same e, z⟩) (fun _ _ _ _ _ _ hD hn b ⟨a, xs, e1, h, p, z⟩ => ⟨a, xs, e1, b _ _ h (hn a e1), Paired.mapP p fun _ _ q => q.but hD b, z⟩)
end
end K26
end
section
set_option maxRecDepth 100000
set_option maxHeartbeats 4000000
namespace K26
open PySem PySem.Spec PyProof.Rows L2
theorem tabS_R {ws : List (Int × Int)} : tabS ws = tabR (ws.map canR) := by
  funext a b
  unfold tabS tabR cS cN
  rw [List.filter_map, List.length_map]
  rfl
/-- one way of a rain: a day and one can, or none within the days -/
def OptR (T : Nat) (H : Hp) (y : V) : Prop := y = .non ∨ ∃ t d, y = .ref t ∧ H t = some (.tup [.int d, .int 1]) ∧ 1 ≤ d ∧ d ≤ (T : Int)
theorem OptR.same {T : Nat} {H H' : Hp} (e : Same H H') {y : V} (h : OptR T H y) : OptR T H' y := by
  rcases h with rfl | ⟨t, d, rfl, h, r⟩
  · exact .inl rfl
  · exact .inr ⟨t, d, rfl, e _ _ h, r⟩
theorem OptR.mut {T : Nat} {H : Hp} {l : Addr} {xs : List V} {o : HO} (hl : H l = some (.lst xs)) {y : V} (h : OptR T H y) : OptR T (upd H l o) y := by
  rcases h with rfl | ⟨t, d, rfl, h, r⟩
  · exact .inl rfl
  · exact .inr ⟨t, d, rfl, by rw [upd_ne (fun z => by rw [z, hl] at h; cases h)]; exact h, r⟩
section
variable {P : Program} {w : World} {K : PySem.W.Frag} {mg : Str → Option Value} {base : Heap}
def spOptions : Sp := fun vs H Q _ => ∃ (T : Nat) (x : V) (c : Int × Int), vs = [.int T, x, .bl false] ∧ QuadT H x (canR c) ∧ T ≤ 24 ∧ 1 ≤ c.1 ∧ c.1 ≤ c.2 ∧ c.1 ≤ (T : Int) + 1 ∧ c.2 ≤ 100 ∧ ∀ l ys H', H l = none → Same H H' → H' l = some (.lst ys) → 1 ≤ ys.length → ys.length ≤ T + 1 → (∀ y ∈ ys, OptR T H' y) → Q (.ref l) H'
theorem ok__law_options (T : Txt w K mg) : Ok P w K mg base CX0 1 "_law_options" ["days", "rain", "thin"] spOptions := by
  refine Ok.def0 (f__law_options T) (fun _ _ _ _ _ _ us hl => match us, hl with | [_, _, _], _ => rfl) sc__law_options (fun vs H Q E h => ?_) (fun f cdv A outer s H vs Q E hr h => ?_)
  · obtain ⟨TT, x, c, rfl, _⟩ := h
    rfl
  · obtain ⟨TT, x, c, rfl, hq, hT, h1, h2, h3, h4, k⟩ := h
    refine ⟨_, (pss_cons (ps_set (i := 3) sc__law_options.nd rfl (by first | exact Or.inl rfl | exact Or.inr rfl) (pe_lst pa_nil))
      (pss_cons (ps_set (i := 4) sc__law_options.nd rfl (by first | exact Or.inl rfl | exact Or.inr rfl) (pe_ifExp (pt_val (pv 2)) (pe_op op_cat (pe_lst (pa_cons (pe_ix (ix_seqK (K := K) rfl) (pv 1) pe_int (fun _ _ => rfl)) pa_nil)) (pe_ifExp (pt_cmpR op_gt (pe_ix (ix_seqK (K := K) rfl) (pv 1) pe_int (fun _ _ => rfl)) (pe_ix (ix_seqK (K := K) rfl) (pv 1) pe_int (fun _ _ => rfl)) (nomark _)) (pe_lst (pa_cons (pe_ix (ix_seqK (K := K) rfl) (pv 1) pe_int (fun _ _ => rfl)) pa_nil)) (pe_lst pa_nil))) (pe_listRg rfl rfl (n_list T) (prg_2 rfl (n_range T) (pe_ix (ix_seqK (K := K) rfl) (pv 1) pe_int (fun _ _ => rfl)) (pe_op op_add (pe_ix (ix_seqK (K := K) rfl) (pv 1) pe_int (fun _ _ => rfl)) pe_int)))))
      (pss_cons (ps_for PassesOwn.never rfl (pi_range2 rfl (n_range T) (pa_cons (pe_ix (ix_seqK (K := K) rfl) (pv 1) pe_int (fun _ _ => rfl)) (pa_cons (pe_op op_add (pe_callB (call_min2 rfl) rfl (n_min T) (by decide +kernel) (pa_cons (pe_ix (ix_seqK (K := K) rfl) (pv 1) pe_int (fun _ _ => rfl)) (pa_cons (pv 0) pa_nil))) pe_int) pa_nil))) (pg_name (i := 5) sc__law_options.nd rfl (by first | exact Or.inl rfl | exact Or.inr rfl))
        (pss_one (ps_for PassesOwn.never rfl (pi_listK (K := K) rfl (pv 4)) (pg_name (i := 6) sc__law_options.nd rfl (by first | exact Or.inl rfl | exact Or.inr rfl))
        (pss_one (ps_expr (pe_bm PySem.F.plainAttrs_list PySem.F.slot_list_append PySem.F.type_list_append mt_append (pv 3) (pa_cons (pe_tup (pa_cons (pv 5) (pa_cons (pv 6) pa_nil))) pa_nil)))))))
      (pss_cons (ps_if (pt_cmpR op_gt (pe_ix (ix_seqK (K := K) rfl) (pv 1) pe_int (fun _ _ => rfl)) (pv 0) (nomark _)) (pss_one (ps_expr (pe_bm PySem.F.plainAttrs_list PySem.F.slot_list_append PySem.F.type_list_append mt_append (pv 3) (pa_cons pe_non pa_nil)))) pss_nil)
      (pss_one (ps_ret (pv 3))))))), ?_⟩
    refine ⟨(by show 0 ≤ sizeLine; decide), fun fl hfl => ?_⟩
    obtain ⟨s1, g1⟩ := new2 (.lst []) hfl
    have hq1 := hq.same s1
    refine ⟨_, rfl, _, rfl, iteF ⟨_, rfl, hq1.ix (i := 2) rfl ⟨_, rfl, hq1.ix (i := 3) rfl ⟨_, _, rfl, rfl, _, _, rfl, rfl, ?_, fun cl hcl => ?_⟩⟩⟩⟩
    · exact RgOk.of_le (by show (0 : Int) ≤ 1; decide) (by show (1 : Int) + 1 ≤ 16777216; decide) (by show (1 : Int) ≤ 16777216; decide) (by show (0 : Int) ≤ 1 + 1; decide)
    obtain ⟨s2, g2⟩ := new2 (.lst (rgV (canR c).2.2.1 ((canR c).2.2.2 + 1))) hcl
    have er : rgV (canR c).2.2.1 ((canR c).2.2.2 + 1) = [V.int 1] := rfl
    rw [er] at s2 g2 ⊢
    have f1 := s2 _ _ g1
    have e2 := s1.trans s2
    have nfc : fl ≠ cl := fun z => by rw [← z] at hcl; rw [hcl] at g1; cases g1
    generalize upd (upd H fl (.lst [])) cl (.lst [V.int 1]) = H2 at s2 g2 f1 e2 ⊢
    have hq2 := hq1.same s2
    refine ⟨_, rfl, hq2.ix (i := 0) rfl ⟨_, rfl, hq2.ix (i := 1) rfl ⟨_, rfl, _, _, rfl, _, _, rfl, rfl, ?_⟩⟩⟩
    have hmn : (c.1 ≤ (TT : Int) → c.1 ≤ (if (TT : Int) < c.2 then (TT : Int) else c.2)) ∧ (if (TT : Int) < c.2 then (TT : Int) else c.2) ≤ (TT : Int) ∧ 0 ≤ (if (TT : Int) < c.2 then (TT : Int) else c.2) := by
      split <;> omega
    have emn : (if (TT : Int) < (canR c).2.1 then (TT : Int) else (canR c).2.1) = (if (TT : Int) < c.2 then (TT : Int) else c.2) := rfl
    obtain ⟨mn, hmq⟩ : ∃ mn, (if (TT : Int) < c.2 then (TT : Int) else c.2) = mn := ⟨_, rfl⟩
    rw [hmq] at hmn emn
    obtain ⟨m1, m2, m3⟩ := hmn
    refine ⟨(canR c).1, (if (TT : Int) < (canR c).2.1 then (TT : Int) else (canR c).2.1) + 1, rfl, ?_, ?_⟩
    · rw [emn]
      show -2 ^ 62 ≤ c.1 ∧ c.1 < 2 ^ 62 ∧ -2 ^ 62 ≤ mn + 1 ∧ mn + 1 < 2 ^ 62
      omega
    rw [emn]
    refine for_upto (lo := c.1) (L := (mn + 1 - c.1).toNat) rfl (fun i σ H' => ∃ v5 v6 ys, σ = [some (.int TT), some x, some (.bl false), some (.ref fl), some (.ref cl), v5, v6] ∧ Same H H' ∧ H' fl = some (.lst ys) ∧ H' cl = some (.lst [V.int 1]) ∧ ys.length = i ∧ ∀ y ∈ ys, OptR TT H' y) ⟨_, _, [], rfl, e2, f1, g2, rfl, fun y h => by cases h⟩ ?_ ?_
    · rintro i σ H3 hi ⟨v5, v6, ys, rfl, e3, f3, c3, hyl, hys⟩
      refine gnE ?_
      refine ⟨_, rfl, cl, rfl, ⟨_, SqL.of c3⟩, for_list (K := K) (a := cl) (xs := [V.int 1]) (fun j σ H' => ∃ v6 ys, σ = [some (.int TT), some x, some (.bl false), some (.ref fl), some (.ref cl), some (.int (c.1 + (i : Int))), v6] ∧ Same H H' ∧ H' fl = some (.lst ys) ∧ H' cl = some (.lst [V.int 1]) ∧ ys.length = i + j ∧ ∀ y ∈ ys, OptR TT H' y) ⟨_, ys, rfl, e3, f3, c3, hyl, hys⟩ (fun _ _ _ _ ⟨_, _, _, _, _, z, _⟩ => SqL.of z) ?_ ?_⟩
      · rintro j y σ H4 hj ⟨v6, ys, rfl, e4, f4, c4, hyl, hys⟩
        have hj0 : j = 0 ∧ y = .int 1 := by
          cases j with
          | zero => exact ⟨rfl, by simpa using hj.symm⟩
          | succ j => simp at hj
        obtain ⟨rfl, rfl⟩ := hj0
        refine gnE ?_
        refine ⟨_, rfl, .inl ⟨rfl, _, SqL.of f4⟩, _, rfl, _, rfl, (by show 2 ≤ sizeLine; decide), fun t ht => ?_⟩
        obtain ⟨s5, g5⟩ := new2 (.tup [.int (c.1 + (i : Int)), .int 1]) ht
        have f5 := s5 _ _ f4
        refine ⟨fl, ys, _, rfl, rfl, f5, line_lt (by omega), ?_⟩
        refine ⟨_, ys ++ [.ref t], rfl, same_mut (e4.trans s5) hfl, upd_same, by rw [upd_ne nfc.symm]; exact s5 _ _ c4, by rw [List.length_append, hyl]; rfl, fun y hy => ?_⟩
        rcases List.mem_append.mp hy with hy | hy
        · exact ((hys y hy).same s5).mut f5
        · rw [List.mem_singleton.mp hy]
          exact OptR.mut f5 (.inr ⟨t, _, rfl, g5, by omega, by omega⟩)
      · rintro σ H4 ⟨v6, ys, rfl, e4, f4, c4, hyl, hys⟩
        exact ⟨_, _, ys, rfl, e4, f4, c4, hyl, hys⟩
    · rintro σ H3 ⟨v5, v6, ys, rfl, e3, f3, c3, hyl, hys⟩
      refine ⟨_, rfl, (hq.same e3).ix (i := 1) rfl ⟨_, rfl, _, _, rfl, rfl, _, rfl, ?_⟩⟩
      show (if decide ((TT : Int) < c.2) = true then _ else _)
      cases q : decide ((TT : Int) < c.2) with
      | true =>
        refine ⟨_, rfl, .inl ⟨rfl, _, SqL.of f3⟩, fl, ys, _, rfl, rfl, f3, line_lt (by omega), ?_⟩
        refine ⟨_, rfl, k fl (ys ++ [.non]) _ hfl (same_mut e3 hfl) upd_same (by rw [List.length_append]; exact Nat.le_add_left _ _) (by rw [List.length_append]; show _ + 1 ≤ _; omega) fun y hy => ?_⟩
        rcases List.mem_append.mp hy with hy | hy
        · exact (hys y hy).mut f3
        · rw [List.mem_singleton.mp hy]
          exact .inl rfl
      | false =>
        have q := of_decide_eq_false q
        rw [if_neg q] at hmq
        exact ⟨_, rfl, k fl ys _ hfl e3 f3 (by have := m1; omega) (by omega) hys⟩
end
end K26
end
section
set_option maxRecDepth 100000
set_option maxHeartbeats 4000000
namespace K26
open PySem PySem.Spec PyProof.Rows L2
/-- a weather that is being made: its reports are lists of its own -/
def RepA (H : Hp) (r : Addr) (rep : List (Int × Int)) : Prop := ∃ xs, H r = some (.lst xs) ∧ Paired (PairT H) xs rep
def WeaG (H0 H : Hp) (D : Addr) (W : List (List (Int × Int))) : Prop := ∃ rs : List Addr, H D = some (.lst (rs.map V.ref)) ∧ rs.Nodup ∧ D ∉ rs ∧ (∀ r ∈ rs, H0 r = none) ∧ Paired (RepA H) rs W
theorem RepA.same {H H' : Hp} (e : Same H H') {r : Addr} {rep : List (Int × Int)} (h : RepA H r rep) : RepA H' r rep := by
  obtain ⟨xs, h1, h2⟩ := h
  exact ⟨xs, e _ _ h1, Paired.mapP h2 fun _ _ z => z.same e⟩
theorem WeaG.same {H0 H H' : Hp} (e : Same H H') {D : Addr} {W : List (List (Int × Int))} (h : WeaG H0 H D W) : WeaG H0 H' D W := by
  obtain ⟨rs, h1, h2, h3, h4, h5⟩ := h
  exact ⟨rs, e _ _ h1, h2, h3, h4, Paired.mapP h5 fun _ _ z => z.same e⟩
theorem paired_map {α β γ : Type} {F : β → γ → Prop} {g : α → β} : ∀ {l : List α} {m : List γ}, Paired (fun a c => F (g a) c) l m → Paired F (l.map g) m
  | _, _, .nil => .nil
  | _, _, .cons a b => .cons a (paired_map b)
theorem WeaG.wea {H0 H : Hp} {D : Addr} {W : List (List (Int × Int))} (h : WeaG H0 H D W) : WeaT H D W := by
  obtain ⟨rs, h1, h2, h3, h4, h5⟩ := h
  exact ⟨_, h1, paired_map (Paired.mapP h5 fun r _ ⟨xs, q1, q2⟩ => ⟨r, xs, rfl, q1, q2⟩)⟩
theorem paired_set {α β : Type} {F G : α → β → Prop} {b : β} {a : α} {l : List α} {m : List β} (hp : Paired F l m) (k : ∀ x y, x ≠ a → F x y → G x y) (g : G a b) : ∀ {i : Nat}, l.Nodup → l[i]? = some a → Paired G l (m.set i b) := by
  induction hp with
  | nil => intro i _ e; simp at e
  | cons h t ih =>
    rename_i x y l' m'
    intro i hn e
    rw [List.nodup_cons] at hn
    cases i with
    | zero =>
      have : x = a := by simpa using e
      subst this
      refine .cons g ?_
      have : ∀ {l' : List α} {m' : List β}, x ∉ l' → Paired F l' m' → Paired G l' m' := fun {l' m'} hl hp => by
        induction hp with
        | nil => exact .nil
        | cons h _ ih =>
          rw [List.mem_cons, not_or] at hl
          exact .cons (k _ _ (fun z => hl.1 z.symm) h) (ih hl.2)
      exact this hn.1 t
    | succ i =>
      have e : l'[i]? = some a := by simpa using e
      exact .cons (k _ _ (fun z => hn.1 (by rw [z]; exact List.mem_of_getElem? e)) h) (ih hn.2 e)
/-- one more fall in one report -/
theorem WeaG.put {H0 H : Hp} {D : Addr} {W : List (List (Int × Int))} {i : Nat} {rep : List (Int × Int)} (h : WeaG H0 H D W) (hi : W[i]? = some rep) : ∃ (rs : List Addr) (r : Addr) (xs : List V), H D = some (.lst (rs.map V.ref)) ∧ (rs.map V.ref)[i]? = some (V.ref r) ∧ H r = some (.lst xs) ∧ xs.length = rep.length ∧ H0 r = none ∧
    ∀ (H' : Hp) (x : V) (c : Int × Int), Same H H' → PairT H' x c → WeaG H0 (upd H' r (.lst (xs ++ [x]))) D (W.set i (rep ++ [c])) := by
  obtain ⟨rs, h1, h2, h3, h4, h5⟩ := h
  have hil : i < rs.length := by
    rw [Paired.length h5]
    exact (List.getElem?_eq_some_iff.mp hi).1
  have hr : rs[i]? = some rs[i] := List.getElem?_eq_getElem hil
  obtain ⟨rep', hrep', xs, q1, q2⟩ := paired_get h5 hr
  rw [hi] at hrep'
  cases hrep'
  refine ⟨rs, rs[i], xs, h1, by rw [List.getElem?_map, hr]; rfl, q1, Paired.length q2, h4 _ (List.getElem_mem hil), fun H' x c e hx => ?_⟩
  have q1' := e _ _ q1
  refine ⟨rs, ?_, h2, h3, h4, ?_⟩
  · rw [upd_ne fun z => h3 (by rw [z]; exact List.getElem_mem hil)]
    exact e _ _ h1
  · refine paired_set h5 (fun y z hy ⟨ys, p1, p2⟩ => ⟨ys, ?_, Paired.mapP p2 fun _ _ t => (t.same e).mut q1'⟩) ⟨xs ++ [x], upd_same, Paired.snoc (Paired.mapP q2 fun _ _ t => (t.same e).mut q1') (hx.mut q1')⟩ h2 hr
    rw [upd_ne hy]
    exact e _ _ p1
theorem total_rep : ∀ n, total (List.replicate n ([] : List (Int × Int))) = 0
  | 0 => rfl
  | n + 1 => by
    rw [List.replicate_succ', total_app, total_rep n]
    rfl
theorem total_cons {rep : List (Int × Int)} {W : List (List (Int × Int))} : total (rep :: W) = rep.length + total W := by
  unfold total
  rw [List.map_cons, List.sum_cons]
theorem total_get : ∀ {W : List (List (Int × Int))} {i : Nat} {rep : List (Int × Int)}, W[i]? = some rep → rep.length ≤ total W
  | [], i, rep, h => by simp at h
  | r :: W, 0, rep, h => by
    have : r = rep := by simpa using h
    rw [total_cons, this]
    omega
  | r :: W, i + 1, rep, h => by
    have := total_get (W := W) (i := i) (rep := rep) (by simpa using h)
    rw [total_cons]
    omega
theorem total_set {c : Int × Int} : ∀ {W : List (List (Int × Int))} {i : Nat} {rep : List (Int × Int)}, W[i]? = some rep → total (W.set i (rep ++ [c])) = total W + 1
  | [], i, rep, h => by simp at h
  | r :: W, 0, rep, h => by
    have : r = rep := by simpa using h
    rw [List.set_cons_zero, total_cons, total_cons, this, List.length_append]
    show rep.length + 1 + _ = _
    omega
  | r :: W, i + 1, rep, h => by
    have := total_set (c := c) (W := W) (i := i) (rep := rep) (by simpa using h)
    rw [List.set_cons_succ, total_cons, total_cons, this]
    omega
section
variable {P : Program} {w : World} {K : PySem.W.Frag} {mg : Str → Option Value} {base : Heap}
def spWeather : Sp := fun vs H Q _ => ∃ (T : Nat) (l : Addr) (xs : List V), vs = [.int T, .ref l] ∧ H l = some (.lst xs) ∧ T ≤ 24 ∧ xs.length ≤ 40 ∧ (∀ y ∈ xs, OptR T H y) ∧ ∀ p W H', H p = none → Same H H' → WeaG H H' p W → W.length = T → total W ≤ 40 → Q (.ref p) H'
theorem ok__law_weather (T : Txt w K mg) : Ok P w K mg base CX0 1 "_law_weather" ["days", "falls"] spWeather := by
  refine Ok.def0 (f__law_weather T) (fun _ _ _ _ _ _ us hl => match us, hl with | [_, _], _ => rfl) sc__law_weather (fun vs H Q E h => ?_) (fun f cdv A outer s H vs Q E hr h => ?_)
  · obtain ⟨TT, l, xs, rfl, _⟩ := h
    rfl
  · obtain ⟨TT, l, xs, rfl, hl, hT, hxl, hx, k⟩ := h
    refine ⟨_, (pss_cons (ps_setLc (i := 3) (own := [("day", 2)]) rfl sc__law_weather.nd rfl rfl (sw_true rfl rfl rfl (by decide +kernel)) (pi_range1 rfl (n_range T) (pa_cons (pv 0) pa_nil)) (blkOk_by (N := ["days", "falls", "day", "reports", "at"]) (sc := defScope s__law_weather) (by decide +kernel)) (fun _ _ _ _ _ => (pg_name (i := 2) sc__law_weather.nd rfl (by first | exact Or.inl rfl | exact Or.inr rfl))) (fun _ _ _ _ _ => pts_nil) (fun _ _ _ _ _ => (pe_lst pa_nil)))
      (pss_cons (ps_for PassesOwn.never rfl (pi_range1 rfl (n_range T) (pa_cons (pe_callB (len_seqK (K := K) rfl) rfl (n_len T) (by decide +kernel) (pa_cons (pv 1) pa_nil)) pa_nil)) (pg_name (i := 4) sc__law_weather.nd rfl (by first | exact Or.inl rfl | exact Or.inr rfl))
        (pss_one (ps_if (PW.pt (pw_and (pt_cmpR op_notN (pe_ix (ix_listK (K := K) rfl) (pv 1) (pv 4) (fun _ _ => rfl)) pe_non (nomark _)) (pw_and1 (pt_cmpR op_le (pe_ix (ix_seqK (K := K) rfl) (pe_ix (ix_listK (K := K) rfl) (pv 1) (pv 4) (fun _ _ => rfl)) pe_int (fun _ _ => rfl)) (pv 0) (nomark _))))) (pss_one (ps_expr (pe_bm PySem.F.plainAttrs_list PySem.F.slot_list_append PySem.F.type_list_append mt_append (pe_ix (ix_listK (K := K) rfl) (pv 3) (pe_op op_sub (pe_ix (ix_seqK (K := K) rfl) (pe_ix (ix_listK (K := K) rfl) (pv 1) (pv 4) (fun _ _ => rfl)) pe_int (fun _ _ => rfl)) pe_int) (fun _ _ => rfl)) (pa_cons (pe_tup (pa_cons (pe_op op_add (pv 4) pe_int) (pa_cons (pe_ix (ix_seqK (K := K) rfl) (pe_ix (ix_listK (K := K) rfl) (pv 1) (pv 4) (fun _ _ => rfl)) pe_int (fun _ _ => rfl)) pa_nil))) pa_nil)))) pss_nil)))
      (pss_one (ps_ret (pv 3))))), ?_⟩
    refine ⟨_, rfl, _, rfl, by omega, by omega, fun D hD => lc_upto (lo := 0) (L := TT) (by omega) hD (by omega) (fun j acc H2 => ∃ rs : List Addr, acc = rs.map V.ref ∧ rs.Nodup ∧ D ∉ rs ∧ (∀ r ∈ rs, H r = none) ∧ Paired (RepA H2) rs (List.replicate j [])) (fun _ _ => ⟨([] : List Addr), rfl, List.nodup_nil, (by simp), (fun (r : Addr) (h : r ∈ ([] : List Addr)) => (by simp at h)), Paired.nil⟩) ?_ ?_⟩
    · rintro j acc H2 N N0 hj s2 hacc ⟨rs, rfl, hnd, hDn, hr0, hp⟩ hN hN0
      refine ⟨rfl, (by show 0 ≤ sizeLine; decide), fun r hr_ => ?_⟩
      obtain ⟨s3, g3⟩ := new2 (.lst []) hr_
      have hrD : r ≠ D := fun z => by rw [z, hacc] at hr_; cases hr_
      refine hN _ _ s3 fun H5 b5 _ => ⟨rs ++ [r], by rw [List.map_append]; rfl, ?_, ?_, ?_, ?_⟩
      · rw [List.nodup_append]
        refine ⟨hnd, by simp, fun x hx y hy => ?_⟩
        rw [List.mem_singleton.mp hy]
        intro z
        obtain ⟨a, ha⟩ := List.getElem?_of_mem hx
        obtain ⟨_, _, ys, q, _⟩ := paired_get hp ha
        rw [z, hr_] at q
        cases q
      · intro z
        rcases List.mem_append.mp z with z | z
        · exact hDn z
        · exact hrD (List.mem_singleton.mp z).symm
      · intro q hq
        rcases List.mem_append.mp hq with z | z
        · exact hr0 q z
        · rw [List.mem_singleton.mp z]
          exact none_of s2 hr_
      · rw [List.replicate_succ']
        have hacc3 := s3 _ _ hacc
        refine Paired.append ?_ (.cons ⟨[], b5 _ _ g3 hrD, .nil⟩ .nil)
        have : ∀ {l' : List Addr} {m' : List (List (Int × Int))}, D ∉ l' → Paired (RepA H2) l' m' → Paired (RepA H5) l' m' := fun {l' m'} hl hp => by
          induction hp with
          | nil => exact .nil
          | cons h _ ih =>
            rw [List.mem_cons, not_or] at hl
            obtain ⟨ys, q1, q2⟩ := h
            exact .cons ⟨ys, b5 _ _ (s3 _ _ q1) fun z => hl.1 z.symm, Paired.mapP q2 fun _ _ z => (z.same s3).but hacc3 b5⟩ (ih hl.2)
        exact this hDn hp
    · rintro acc H2 s2 hacc hal ⟨rs, rfl, hnd, hDn, hr0, hp⟩
      have hG : WeaG H H2 D (List.replicate TT []) := ⟨rs, hacc, hnd, hDn, hr0, hp⟩
      refine ⟨_, rfl, _, _, rfl, .inl (SqL.of (s2 _ _ hl)), _, rfl, by omega, by omega, for_upto (lo := 0) (L := xs.length) (by omega) (fun i σ H' => ∃ v4 W, σ = [some (.int TT), some (.ref l), none, some (.ref D), v4] ∧ Same H H' ∧ WeaG H H' D W ∧ W.length = TT ∧ total W ≤ i) ⟨_, _, rfl, s2, hG, List.length_replicate, ?_⟩ ?_ ?_⟩
      · rw [total_rep]
        exact Nat.zero_le _
      · rintro i σ H3 hi ⟨v4, W, rfl, e3, hG3, hWl, htot⟩
        have z1 : (0 : Int) + (i : Int) = (i : Int) := by omega
        rw [z1]
        refine gnE ?_
        obtain ⟨y, hy⟩ : ∃ y, xs[i]? = some y := ⟨xs[i], List.getElem?_eq_getElem hi⟩
        have hl3 := e3 _ _ hl
        rcases (hx y (List.mem_of_getElem? hy)).same e3 with rfl | ⟨t, d, rfl, ht, d1, d2⟩
        · refine ⟨_, rfl, _, rfl, l, xs, _, .non, rfl, rfl, SqL.of hl3, at_of rfl hy, rfl, _, rfl, ?_⟩
          rw [decide_eq_true rfl]
          exact ⟨_, W, rfl, e3, hG3, hWl, by omega⟩
        · have hp : PairT H3 (.ref t) (d, 1) := ⟨t, rfl, ht⟩
          refine ⟨_, rfl, _, rfl, l, xs, _, .ref t, rfl, rfl, SqL.of hl3, at_of rfl hy, rfl, _, rfl, ?_⟩
          rw [decide_eq_false (fun z => by cases z)]
          refine ⟨_, rfl, _, rfl, l, xs, _, .ref t, rfl, rfl, SqL.of hl3, at_of rfl hy, hp.i0 ⟨_, rfl, _, _, rfl, rfl, _, rfl, ?_⟩⟩
          show (if decide (d ≤ (TT : Int)) = true then _ else _)
          rw [decide_eq_true d2]
          obtain ⟨n, hn⟩ : ∃ n : Nat, d = (n : Int) + 1 := ⟨(d - 1).toNat, by omega⟩
          obtain ⟨rep, hrep⟩ : ∃ rep, W[n]? = some rep := ⟨W[n]'(by omega), List.getElem?_eq_getElem _⟩
          obtain ⟨rs, r, zs, q1, q2, q3, q4, q5, q6⟩ := hG3.put hrep
          refine ⟨_, rfl, _, rfl, _, rfl, l, xs, _, .ref t, rfl, rfl, SqL.of hl3, at_of rfl hy, hp.i0 ⟨_, _, rfl, rfl, D, _, _, .ref r, rfl, rfl, SqL.of q1, at_of (by show d - 1 = _; omega) q2, .inl ⟨rfl, _, SqL.of q3⟩, ?_⟩⟩
          refine ⟨_, rfl, _, _, rfl, rfl, _, rfl, _, rfl, l, xs, _, .ref t, rfl, rfl, SqL.of hl3, at_of rfl hy, hp.i1 ⟨(by show 2 ≤ sizeLine; decide), fun u hu => ?_⟩⟩
          obtain ⟨s4, g4⟩ := new2 (.tup [.int ((i : Int) + 1), .int 1]) hu
          have hrl : rep.length ≤ 40 := by
            have := total_get hrep
            omega
          refine ⟨r, zs, _, rfl, rfl, s4 _ _ q3, line_lt (by omega), ?_⟩
          refine ⟨_, W.set n (rep ++ [((i : Int) + 1, 1)]), rfl, same_mut (e3.trans s4) q5, q6 _ _ _ s4 ⟨u, rfl, g4⟩, by rw [List.length_set]; exact hWl, ?_⟩
          rw [total_set hrep]
          omega
      · rintro σ H3 ⟨v4, W, rfl, e3, hG3, hWl, htot⟩
        exact ⟨_, rfl, k D W H3 hD e3 hG3 hWl (by omega)⟩
end
end K26
end
section
set_option maxRecDepth 100000
set_option maxHeartbeats 4000000
namespace K26
open PySem PySem.Spec PyProof.Rows L2
/-- a list of n ways -/
def FlsT (T n : Nat) (H : Hp) (y : V) : Prop := ∃ a zs, y = .ref a ∧ H a = some (.lst zs) ∧ zs.length = n ∧ ∀ z ∈ zs, OptR T H z
theorem FlsT.same {T n : Nat} {H H' : Hp} (e : Same H H') {y : V} (h : FlsT T n H y) : FlsT T n H' y := by
  obtain ⟨a, zs, rfl, h1, h2, h3⟩ := h
  exact ⟨a, zs, rfl, e _ _ h1, h2, fun z hz => (h3 z hz).same e⟩
theorem FlsT.mut {T n : Nat} {H : Hp} {l : Addr} {xs : List V} {o : HO} (hl : H l = some (.lst xs)) {y : V} (hy : y ≠ .ref l) (h : FlsT T n H y) : FlsT T n (upd H l o) y := by
  obtain ⟨a, zs, rfl, h1, h2, h3⟩ := h
  exact ⟨a, zs, rfl, by rw [upd_ne fun z => hy (by rw [z])]; exact h1, h2, fun z hz => (h3 z hz).mut hl⟩
/-- a weather of its days, with few falls -/
def WT (T : Nat) (H : Hp) (y : V) : Prop := ∃ p W, y = .ref p ∧ WeaT H p W ∧ W.length = T ∧ total W ≤ 40
/-- such a weather, none of whose lists is one of these -/
def WTD (S : Addr → Prop) (T : Nat) (H : Hp) (y : V) : Prop := ∃ p W rs, y = .ref p ∧ (∀ D, S D → p ≠ D) ∧ (∀ D, S D → D ∉ rs) ∧ H p = some (.lst (rs.map V.ref)) ∧ Paired (RepA H) rs W ∧ W.length = T ∧ total W ≤ 40
theorem WTD.same {D : Addr → Prop} {T : Nat} {H H' : Hp} (e : Same H H') {y : V} (h : WTD D T H y) : WTD D T H' y := by
  obtain ⟨p, W, rs, h1, h2, h3, h4, h5, h6⟩ := h
  exact ⟨p, W, rs, h1, h2, h3, e _ _ h4, Paired.mapP h5 fun _ _ z => z.same e, h6⟩
theorem WTD.but {S : Addr → Prop} {D : Addr} (hS : S D) {T : Nat} {H H' : Hp} {xs : List V} (hD : H D = some (.lst xs)) (b : But D H H') {y : V} (h : WTD S T H y) : WTD S T H' y := by
  obtain ⟨p, W, rs, h1, h2, h3, h4, h5, h6⟩ := h
  refine ⟨p, W, rs, h1, h2, h3, b _ _ h4 (h2 D hS), ?_, h6⟩
  have : ∀ {l' : List Addr} {m' : List (List (Int × Int))}, D ∉ l' → Paired (RepA H) l' m' → Paired (RepA H') l' m' := fun {l' m'} hl hp => by
    induction hp with
    | nil => exact .nil
    | cons h _ ih =>
      rw [List.mem_cons, not_or] at hl
      obtain ⟨ys, q1, q2⟩ := h
      exact .cons ⟨ys, b _ _ q1 fun z => hl.1 z.symm, Paired.mapP q2 fun _ _ z => z.but hD b⟩ (ih hl.2)
  exact this (h3 D hS) h5
theorem WTD.wt {D : Addr → Prop} {T : Nat} {H : Hp} {y : V} (h : WTD D T H y) : WT T H y := by
  obtain ⟨p, W, rs, h1, h2, h3, h4, h5, h6⟩ := h
  exact ⟨p, W, h1, ⟨_, h4, paired_map (Paired.mapP h5 fun r _ ⟨xs, q1, q2⟩ => ⟨r, xs, rfl, q1, q2⟩)⟩, h6⟩
theorem WTD.mono {S S' : Addr → Prop} {T : Nat} {H : Hp} {y : V} (h : WTD S T H y) (k : ∀ D, S' D → S D) : WTD S' T H y := by
  obtain ⟨p, W, rs, h1, h2, h3, r⟩ := h
  exact ⟨p, W, rs, h1, fun D d => h2 D (k D d), fun D d => h3 D (k D d), r⟩
section
variable {P : Program} {w : World} {K : PySem.W.Frag} {mg : Str → Option Value} {base : Heap}
def SpanOk (T : Nat) (c : Int × Int) : Prop := 1 ≤ c.1 ∧ c.1 ≤ c.2 ∧ c.1 ≤ (T : Int) + 1 ∧ c.2 ≤ (T : Int) + 2
def spWeathers : Sp := fun vs H Q _ => ∃ (T : Nat) (l : Addr) (xs : List V) (ws : List (Int × Int)), vs = [.int T, .ref l, .bl false] ∧ H l = some (.lst xs) ∧ Paired (QuadT H) xs (ws.map canR) ∧ T ≤ 7 ∧ ws.length ≤ 5 ∧ (∀ c ∈ ws, SpanOk T c) ∧ ∀ p ys H', H p = none → Same H H' → H' p = some (.lst ys) → ys.length ≤ 32768 → (∀ y ∈ ys, WTD (fun D => H D ≠ none) T H' y) → Q (.ref p) H'
theorem ok__law_weathers (T : Txt w K mg) : Ok P w K mg base CX0 2 "_law_weathers" ["days", "rains", "thin"] spWeathers := by
  refine Ok.def0 (f__law_weathers T) (fun _ _ _ _ _ _ us hl => match us, hl with | [_, _, _], _ => rfl) sc__law_weathers (fun vs H Q E h => ?_) (fun f cdv A outer s H vs Q E hr h => ?_)
  · obtain ⟨TT, l, xs, ws, rfl, _⟩ := h
    rfl
  · obtain ⟨TT, l, xs, ws, rfl, hl, hP, hT, hw, hs, k⟩ := h
    refine ⟨_, (pss_cons (ps_set (i := 3) sc__law_weathers.nd rfl (by first | exact Or.inl rfl | exact Or.inr rfl) (pe_lst (pa_cons (pe_lst pa_nil) pa_nil)))
      (pss_cons (ps_for PassesOwn.never rfl (pi_listK (K := K) rfl (pv 1)) (pg_name (i := 4) sc__law_weathers.nd rfl (by first | exact Or.inl rfl | exact Or.inr rfl))
        (pss_cons (ps_set (i := 5) sc__law_weathers.nd rfl (by first | exact Or.inl rfl | exact Or.inr rfl) (pe_lst pa_nil))
      (pss_cons (ps_for PassesOwn.never rfl (pi_listK (K := K) rfl (pv 3)) (pg_name (i := 6) sc__law_weathers.nd rfl (by first | exact Or.inl rfl | exact Or.inr rfl))
        (pss_one (ps_for PassesOwn.never rfl (pi_listK (K := K) rfl (pe_ok (ok__law_options T) (hr.mono (by first | decide | omega)) rfl pass0 (pa_cons (pv 0) (pa_cons (pv 4) (pa_cons (pv 2) pa_nil))))) (pg_name (i := 7) sc__law_weathers.nd rfl (by first | exact Or.inl rfl | exact Or.inr rfl))
        (pss_one (ps_expr (pe_bm PySem.F.plainAttrs_list PySem.F.slot_list_append PySem.F.type_list_append mt_append (pv 5) (pa_cons (pe_op op_cat (pv 6) (pe_lst (pa_cons (pv 7) pa_nil))) pa_nil)))))))
      (pss_one (ps_set (i := 3) sc__law_weathers.nd rfl (by first | exact Or.inl rfl | exact Or.inr rfl) (pv 5))))))
      (pss_one (ps_ret (pe_lc (own := [("falls", 6)]) rfl sc__law_weathers.nd (pi_listK (K := K) rfl (pv 3)) (blkOk_by (N := ["days", "rains", "thin", "found", "rain", "more", "falls", "fall"]) (sc := defScope s__law_weathers) (by decide +kernel)) (fun _ _ _ _ _ => (pg_name (i := 6) sc__law_weathers.nd rfl (by first | exact Or.inl rfl | exact Or.inr rfl))) (fun _ _ _ _ _ => pts_nil) (fun _ _ _ _ _ => (pe_ok (ok__law_weather T) (hr.mono (by first | decide | omega)) rfl pass0 (pa_cons (pv 0) (pa_cons (pv 6) pa_nil))))))))), ?_⟩
    have hxl : xs.length = ws.length := by rw [Paired.length hP, List.length_map]
    refine ⟨(by show 0 ≤ sizeLine; decide), fun e0 he0 => ⟨(by show 1 ≤ sizeLine; decide), fun F0 hF0 => ?_⟩⟩
    obtain ⟨s1, g1⟩ := new2 (.lst []) he0
    obtain ⟨s2, g2⟩ := new2 (.lst [V.ref e0]) hF0
    have e12 := s1.trans s2
    refine ⟨_, rfl, l, rfl, ⟨_, SqL.of (e12 _ _ hl)⟩, for_list (K := K) (a := l) (xs := xs) (fun i σ H' => ∃ F fs v4 v5 v6 v7, σ = [some (.int TT), some (.ref l), some (.bl false), some (.ref F), v4, v5, v6, v7] ∧ Same H H' ∧ H' F = some (.lst fs) ∧ fs.length ≤ 8 ^ i ∧ ∀ y ∈ fs, FlsT TT i H' y) ⟨F0, [.ref e0], _, _, _, _, rfl, e12, g2, Nat.le_refl _, fun y hy => ?_⟩ (fun _ _ _ _ ⟨_, _, _, _, _, _, _, e, _⟩ => SqL.of (e _ _ hl)) ?_ ?_⟩
    · rw [List.mem_singleton.mp hy]
      exact ⟨e0, [], rfl, s2 _ _ g1, rfl, fun z hz => by cases hz⟩
    · rintro i x σ H1 hx ⟨F, fs, v4, v5, v6, v7, rfl, e1, hF, hfl, hfs⟩
      have hi : i < xs.length := (List.getElem?_eq_some_iff.mp hx).1
      obtain ⟨q, hq', hq⟩ := paired_get hP hx
      rw [List.getElem?_map] at hq'
      obtain ⟨c, hc, rfl⟩ := Option.map_eq_some_iff.mp hq'
      have hsc := hs c (List.mem_of_getElem? hc)
      unfold SpanOk at hsc
      have hpow : 8 ^ i ≤ 4096 := Nat.le_trans (Nat.pow_le_pow_right (by decide) (show i ≤ 4 by omega)) (by decide)
      refine gnE ⟨(by show 0 ≤ sizeLine; decide), fun M hM => ?_⟩
      obtain ⟨s3, g3⟩ := new2 (.lst []) hM
      have hM0 : H M = none := none_of e1 hM
      have nFM : F ≠ M := fun z => by rw [z, hM] at hF; cases hF
      refine ⟨_, rfl, F, rfl, ⟨_, SqL.of (s3 _ _ hF)⟩, for_list (K := K) (a := F) (xs := fs) (fun j σ H' => ∃ ms v6 v7, σ = [some (.int TT), some (.ref l), some (.bl false), some (.ref F), some x, some (.ref M), v6, v7] ∧ Same H1 H' ∧ H' M = some (.lst ms) ∧ ms.length ≤ 8 * j ∧ ∀ y ∈ ms, y ≠ .ref M ∧ FlsT TT (i + 1) H' y) ⟨[], _, _, rfl, s3, g3, Nat.le_refl _, fun y hy => by cases hy⟩ (fun _ _ _ _ ⟨_, _, _, _, e, _⟩ => SqL.of (e _ _ hF)) ?_ ?_⟩
      · rintro j y σ H2 hy ⟨ms, v6, v7, rfl, e2, hM2, hml, hms⟩
        have hj : j < fs.length := (List.getElem?_eq_some_iff.mp hy).1
        obtain ⟨a, zs, rfl, b1, b2, b3⟩ := hfs y (List.mem_of_getElem? hy)
        have aM : a ≠ M := fun z => by rw [z, hM] at b1; cases b1
        have a1 := e2 _ _ b1
        have a3 : ∀ z ∈ zs, OptR TT H2 z := fun z hz => (b3 z hz).same e2
        refine gnE ?_
        refine ⟨_, rfl, _, rfl, _, rfl, TT, x, c, rfl, hq.same (e1.trans e2), by omega, hsc.1, hsc.2.1, hsc.2.2.1, by omega, fun o os H3 ho s4 ho3 o1 o2 o3 => ?_⟩
        refine ⟨o, rfl, ⟨_, SqL.of ho3⟩, for_list (K := K) (a := o) (xs := os) (fun n σ H' => ∃ ms v7, σ = [some (.int TT), some (.ref l), some (.bl false), some (.ref F), some x, some (.ref M), some (.ref a), v7] ∧ Same H1 H' ∧ H' o = some (.lst os) ∧ (∀ z ∈ os, OptR TT H' z) ∧ H' a = some (.lst zs) ∧ (∀ z ∈ zs, OptR TT H' z) ∧ H' M = some (.lst ms) ∧ ms.length ≤ 8 * j + n ∧ ∀ y ∈ ms, y ≠ .ref M ∧ FlsT TT (i + 1) H' y) ⟨ms, _, rfl, e2.trans s4, ho3, o3, s4 _ _ a1, fun z hz => (a3 z hz).same s4, s4 _ _ hM2, hml, fun y hy => ⟨(hms y hy).1, (hms y hy).2.same s4⟩⟩ (fun _ _ _ _ ⟨_, _, _, _, e, _⟩ => SqL.of e) ?_ ?_⟩
        · rintro n z σ H4 hz ⟨ms, v7, rfl, e4, o4, oo4, a4, aa4, hM4, hml, hms⟩
          have hn : n < os.length := (List.getElem?_eq_some_iff.mp hz).1
          have oM : o ≠ M := fun z => by rw [z, hM2] at ho; cases ho
          have hj4 : j < 4096 := by omega
          refine gnE ?_
          refine ⟨_, rfl, .inl ⟨rfl, _, SqL.of hM4⟩, _, rfl, _, rfl, (by show 1 ≤ sizeLine; decide), fun u hu => ⟨a, u, zs, [z], rfl, rfl, (same_new hu) _ _ a4, upd_same, line_of (by show zs.length + 1 ≤ _; omega), fun v hv => ?_⟩⟩
          obtain ⟨s5, g5⟩ := new2 (.lst [z]) hu
          obtain ⟨s6, g6⟩ := new2 (.lst (zs ++ [z])) hv
          have s56 := s5.trans s6
          have hM6 := s56 _ _ hM4
          have vM : v ≠ M := fun e => by rw [e, s5 _ _ hM4] at hv; cases hv
          refine ⟨M, ms, _, rfl, rfl, hM6, line_lt (by omega), ?_⟩
          refine ⟨ms ++ [.ref v], _, rfl, same_mut (e4.trans s56) hM, by rw [upd_ne oM]; exact s56 _ _ o4, fun y hy => ((oo4 y hy).same s56).mut hM6, by rw [upd_ne aM]; exact s56 _ _ a4, fun y hy => ((aa4 y hy).same s56).mut hM6, upd_same, by rw [List.length_append]; show _ + 1 ≤ _; omega, fun y hy => ?_⟩
          rcases List.mem_append.mp hy with hy | hy
          · exact ⟨(hms y hy).1, ((hms y hy).2.same s56).mut hM6 (hms y hy).1⟩
          · rw [List.mem_singleton.mp hy]
            have nv : V.ref v ≠ .ref M := fun e => vM (by cases e; rfl)
            refine ⟨nv, FlsT.mut hM6 nv ⟨v, zs ++ [z], rfl, g6, by rw [List.length_append, b2]; rfl, fun y hy => ?_⟩⟩
            rcases List.mem_append.mp hy with hy | hy
            · exact (aa4 y hy).same s56
            · rw [List.mem_singleton.mp hy]
              exact (oo4 z (List.mem_of_getElem? hz)).same s56
        · rintro σ H4 ⟨ms, v7, rfl, e4, o4, oo4, a4, aa4, hM4, hml, hms⟩
          exact ⟨ms, _, _, rfl, e4, hM4, by omega, hms⟩
      · rintro σ H2 ⟨ms, v6, v7, rfl, e2, hM2, hml, hms⟩
        refine ⟨_, rfl, M, ms, _, _, _, _, rfl, e1.trans e2, hM2, ?_, fun y hy => (hms y hy).2⟩
        rw [Nat.pow_succ]
        omega
    · rintro σ H1 ⟨F, fs, v4, v5, v6, v7, rfl, e1, hF, hfl, hfs⟩
      have hpow : 8 ^ xs.length ≤ 32768 := Nat.le_trans (Nat.pow_le_pow_right (by decide) (show xs.length ≤ 5 by omega)) (by decide)
      refine ⟨_, rfl, F, rfl, ⟨_, SqL.of hF⟩, fun D hD => lc_acc (K := K) (a := F) (xs := fs) hD (SqL.of hF) (by omega) (fun j acc H' => ∀ y ∈ acc, WTD (fun D' => D' = D ∨ H D' ≠ none) TT H' y) (fun _ _ y hy => by cases hy) ?_ ?_⟩
      · rintro j y acc H2 N N0 hy s2 hacc hI hN hN0
        obtain ⟨a, zs, rfl, a1, a2, a3⟩ := (hfs y (List.mem_of_getElem? hy)).same s2
        refine gnE ⟨rfl, ?_⟩
        refine ⟨_, rfl, _, rfl, TT, a, zs, rfl, a1, by omega, by omega, a3, fun p W H3 hp s3 hG hW htot => ?_⟩
        refine hN _ _ s3 fun H5 b5 _ z hz => ?_
        have hacc3 := s3 _ _ hacc
        rcases List.mem_append.mp hz with hz | hz
        · exact ((hI z hz).same s3).but (.inl rfl) hacc3 b5
        · rw [List.mem_singleton.mp hz]
          obtain ⟨rs, q1, q2, q3, q4, q5⟩ := hG
          have none2 : ∀ D', (D' = D ∨ H D' ≠ none) → H2 D' ≠ none := fun D' h z => by
            rcases h with rfl | h
            · rw [hacc] at z
              cases z
            · exact h (none_of (e1.trans s2) z)
          exact WTD.but (.inl rfl) hacc3 b5 ⟨p, W, rs, rfl, fun D' h e => none2 D' h (by rw [← e]; exact hp), fun D' h e => none2 D' h (q4 D' e), q1, q5, hW, htot⟩
      · rintro acc H2 s2 hacc hal hI
        exact k D acc H2 (none_of e1 hD) (e1.trans s2) hacc (by omega) fun y hy => (hI y hy).mono fun D' h => .inr h
end
end K26
end
section
set_option maxRecDepth 100000
set_option maxHeartbeats 4000000
namespace K26
open PySem PySem.Spec PyProof.Rows L2
section
variable {P : Program} {w : World} {K : PySem.W.Frag} {mg : Str → Option Value} {base : Heap}
def spSpoil : Sp := fun vs H Q _ => ∃ (l : Addr) (xs : List V), vs = [.ref l] ∧ H l = some (.lst xs) ∧ xs.length ≤ 1000 ∧ ∀ H', But l H H' → Q .non H'
theorem ok__law_spoil (T : Txt w K mg) : Ok P w K mg base CX0 1 "_law_spoil" ["told"] spSpoil := by
  refine Ok.def0 (f__law_spoil T) (fun _ _ _ _ _ _ us hl => match us, hl with | [_], _ => rfl) sc__law_spoil (fun vs H Q E h => ?_) (fun f cdv A outer s H vs Q E hr h => ?_)
  · obtain ⟨l, xs, rfl, _⟩ := h
    rfl
  · obtain ⟨l, xs, rfl, hl, hz, k⟩ := h
    refine ⟨_, (pss_one (ps_expr (pe_bm PySem.F.plainAttrs_list PySem.F.slot_list_append PySem.F.type_list_append mt_append (pv 0) (pa_cons (pe_tup (pa_cons pe_int (pa_cons pe_int pa_nil))) pa_nil)))), ?_⟩
    refine ⟨_, rfl, .inl ⟨rfl, _, SqL.of hl⟩, (by show 2 ≤ sizeLine; decide), fun t ht => ?_⟩
    obtain ⟨s1, g1⟩ := new2 (.tup [.int 0, .int 0]) ht
    refine ⟨l, xs, _, rfl, rfl, s1 _ _ hl, line_lt (by omega), ?_⟩
    exact k _ fun b o hb hn => by
      rw [upd_ne hn]
      exact s1 _ _ hb
def spDrawWeather : Sp := fun vs H Q _ => ∃ (T : Nat) (sa l : Addr) (xs : List V) (ws : List (Int × Int)), vs = [.ref sa, .int T, .ref l] ∧ Stk H sa ∧ H l = some (.lst xs) ∧ l ≠ sa ∧ Paired (PairT H) xs ws ∧ T ≤ 24 ∧ ws.length ≤ 40 ∧ (∀ c ∈ ws, SpanOk T c) ∧ ∀ y H', But sa H H' → Stk H' sa → WTD (fun D => H D ≠ none) T H' y → Q y H'
theorem ok__law_draw_weather (T : Txt w K mg) : Ok P w K mg base CX0 2 "_law_draw_weather" ["stock", "days", "spans"] spDrawWeather := by
  refine Ok.def0 (f__law_draw_weather T) (fun _ _ _ _ _ _ us hl => match us, hl with | [_, _, _], _ => rfl) sc__law_draw_weather (fun vs H Q E h => ?_) (fun f cdv A outer s H vs Q E hr h => ?_)
  · obtain ⟨TT, sa, l, xs, ws, rfl, _⟩ := h
    rfl
  · obtain ⟨TT, sa, l, xs, ws, rfl, hst, hl, hls, hP, hT, hw, hs, k⟩ := h
    refine ⟨_, (pss_cons (ps_set (i := 3) sc__law_draw_weather.nd rfl (by first | exact Or.inl rfl | exact Or.inr rfl) (pe_lst pa_nil))
      (pss_cons (ps_for PassesOwn.never rfl (pi_listK (K := K) rfl (pv 2)) (pg_name (i := 4) sc__law_draw_weather.nd rfl (by first | exact Or.inl rfl | exact Or.inr rfl))
        (pss_cons (ps_set (i := 5) sc__law_draw_weather.nd rfl (by first | exact Or.inl rfl | exact Or.inr rfl) (pe_ok (ok__law_options T) (hr.mono (by first | decide | omega)) rfl pass0 (pa_cons (pv 1) (pa_cons (pe_tup (pa_cons (pe_ix (ix_seqK (K := K) rfl) (pv 4) pe_int (fun _ _ => rfl)) (pa_cons (pe_ix (ix_seqK (K := K) rfl) (pv 4) pe_int (fun _ _ => rfl)) (pa_cons pe_int (pa_cons pe_int pa_nil))))) (pa_cons pe_bl pa_nil)))))
      (pss_one (ps_expr (pe_bm PySem.F.plainAttrs_list PySem.F.slot_list_append PySem.F.type_list_append mt_append (pv 3) (pa_cons (pe_ix (ix_listK (K := K) rfl) (pv 5) (pe_ok (ok__law_draw T) (hr.mono (by first | decide | omega)) rfl pass0 (pa_cons (pv 0) (pa_cons (pe_callB (len_seqK (K := K) rfl) rfl (n_len T) (by decide +kernel) (pa_cons (pv 5) pa_nil)) pa_nil))) (fun _ _ => rfl)) pa_nil))))))
      (pss_one (ps_ret (pe_ok (ok__law_weather T) (hr.mono (by first | decide | omega)) rfl pass0 (pa_cons (pv 1) (pa_cons (pv 3) pa_nil))))))), ?_⟩
    have hxl : xs.length = ws.length := Paired.length hP
    refine ⟨(by show 0 ≤ sizeLine; decide), fun F hF => ?_⟩
    obtain ⟨s1, g1⟩ := new2 (.lst []) hF
    obtain ⟨sx, sy, sz, hsa⟩ := id hst
    refine ⟨_, rfl, l, rfl, ⟨_, SqL.of (s1 _ _ hl)⟩, for_list (K := K) (a := l) (xs := xs) (fun i σ H' => ∃ v4 v5 fs, σ = [some (.ref sa), some (.int TT), some (.ref l), some (.ref F), v4, v5] ∧ But sa H H' ∧ Stk H' sa ∧ H' F = some (.lst fs) ∧ fs.length = i ∧ ∀ y ∈ fs, OptR TT H' y) ⟨_, _, [], rfl, But.of s1, hst.same s1, g1, rfl, fun y hy => by cases hy⟩ (fun _ _ _ _ ⟨_, _, _, _, e, _⟩ => SqL.of (e _ _ hl hls)) ?_ ?_⟩
    · rintro i x σ H1 hx ⟨v4, v5, fs, rfl, e1, st1, hF1, hfl, hfs⟩
      have hi : i < xs.length := (List.getElem?_eq_some_iff.mp hx).1
      obtain ⟨c, hc, hr0⟩ := paired_get hP hx
      have hr := hr0.but hsa e1
      have hsc := hs c (List.mem_of_getElem? hc)
      unfold SpanOk at hsc
      refine gnE ?_
      refine ⟨_, rfl, _, rfl, hr.i0 ⟨_, rfl, hr.i1 ⟨(by show 4 ≤ sizeLine; decide), fun t ht => ?_⟩⟩⟩
      obtain ⟨s2, g2⟩ := new2 (.tup [.int c.1, .int c.2, .int 1, .int 1]) ht
      refine ⟨TT, .ref t, c, rfl, ⟨t, rfl, g2⟩, hT, hsc.1, hsc.2.1, hsc.2.2.1, by omega, fun o os H3 ho s3 ho3 o1 o2 o3 => ?_⟩
      have s23 := s2.trans s3
      have st3 := st1.same s23
      have osa : o ≠ sa := fun z => by
        have := (st1.same s2).ne
        rw [← z, ho] at this
        exact this rfl
      have Fsa : F ≠ sa := fun z => by
        have := hst.ne
        rw [← z, hF] at this
        exact this rfl
      refine ⟨_, rfl, .inl ⟨rfl, _, SqL.of (s23 _ _ hF1)⟩, _, rfl, _, rfl, _, rfl, _, _, rfl, .inl (SqL.of ho3), sa, _, rfl, by omega, by omega, st3, fun r a b c' r0 r1 => ?_⟩
      obtain ⟨tx, ty, tz, hs3⟩ := id st3
      obtain ⟨n, rfl⟩ : ∃ n : Nat, r = (n : Int) := ⟨r.toNat, by omega⟩
      obtain ⟨y, hy⟩ : ∃ y, os[n]? = some y := ⟨os[n]'(by omega), List.getElem?_eq_getElem _⟩
      have ho4 : upd H3 sa (stk a b c') o = some (.lst os) := by rw [upd_ne osa]; exact ho3
      have hF4 : upd H3 sa (stk a b c') F = some (.lst fs) := by rw [upd_ne Fsa]; exact s23 _ _ hF1
      refine ⟨o, os, _, y, rfl, rfl, SqL.of ho4, at_of rfl hy, F, fs, _, rfl, rfl, hF4, line_lt (by omega), ?_⟩
      refine ⟨_, _, fs ++ [y], rfl, ((e1.trans (But.of s23)).upd).mut hF, ?_, upd_same, by rw [List.length_append, hfl]; rfl, fun z hz => ?_⟩
      · exact Stk.but ⟨a, b, c', upd_same⟩ Fsa.symm
      · rcases List.mem_append.mp hz with hz | hz
        · exact (((hfs z hz).same s23).mut hs3).mut hF4
        · rw [List.mem_singleton.mp hz]
          exact ((o3 y (List.mem_of_getElem? hy)).mut hs3).mut hF4
    · rintro σ H1 ⟨v4, v5, fs, rfl, e1, st1, hF1, hfl, hfs⟩
      refine ⟨_, rfl, _, rfl, TT, F, fs, rfl, hF1, hT, by omega, hfs, fun p W H3 hp s3 hG hW htot => ?_⟩
      obtain ⟨rs, q1, q2, q3, q4, q5⟩ := hG
      have nn : ∀ D, H D ≠ none → H1 D ≠ none := fun D h z => h (e1.free st1.ne z)
      exact k _ H3 (e1.trans (But.of s3)) (st1.same s3) ⟨p, W, rs, rfl, fun D h e => nn D h (by rw [← e]; exact hp), fun D h e => nn D h (q4 D e), q1, q5, hW, htot⟩
end
end K26
end
section
set_option maxRecDepth 100000
set_option maxHeartbeats 4000000
namespace K26
open PySem PySem.Spec PyProof.Rows L2
section
variable {P : Program} {w : World} {K : PySem.W.Frag} {mg : Str → Option Value} {base : Heap}
def spDrawSpans : Sp := fun vs H Q _ => ∃ (T n : Nat) (sa : Addr) (lim : Int), vs = [.ref sa, .int T, .int n, .int lim] ∧ Stk H sa ∧ 1 ≤ T ∧ T ≤ 24 ∧ n ≤ 40 ∧ 1 ≤ lim ∧ lim ≤ 10 ^ 60 ∧ ∀ l xs ws H', H l = none → But sa H H' → Stk H' sa → H' l = some (.lst xs) → Paired (PairT H') xs ws → ws.length = n → (∀ c ∈ ws, SpanOk T c) → Q (.ref l) H'
theorem ok__law_draw_spans (T : Txt w K mg) : Ok P w K mg base CX0 2 "_law_draw_spans" ["stock", "days", "many", "limit"] spDrawSpans := by
  refine Ok.def0 (f__law_draw_spans T) (fun _ _ _ _ _ _ us hl => match us, hl with | [_, _, _, _], _ => rfl) sc__law_draw_spans (fun vs H Q E h => ?_) (fun f cdv A outer s H vs Q E hr h => ?_)
  · obtain ⟨TT, n, sa, lim, rfl, _⟩ := h
    rfl
  · obtain ⟨TT, n, sa, lim, rfl, hst, hT1, hT, hn, l1, l2, k⟩ := h
    refine ⟨_, (pss_cons (ps_set (i := 4) sc__law_draw_spans.nd rfl (by first | exact Or.inl rfl | exact Or.inr rfl) (pe_lst pa_nil))
      (pss_cons (ps_set (i := 5) sc__law_draw_spans.nd rfl (by first | exact Or.inl rfl | exact Or.inr rfl) pe_int)
      (pss_cons (ps_for PassesOwn.never rfl (pi_range1 rfl (n_range T) (pa_cons (pv 2) pa_nil)) (pg_name (i := 6) sc__law_draw_spans.nd rfl (by first | exact Or.inl rfl | exact Or.inr rfl))
        (pss_cons (ps_set (i := 7) sc__law_draw_spans.nd rfl (by first | exact Or.inl rfl | exact Or.inr rfl) (pe_op op_add pe_int (pe_ok (ok__law_draw T) (hr.mono (by first | decide | omega)) rfl pass0 (pa_cons (pv 0) (pa_cons (pv 1) pa_nil)))))
      (pss_cons (ps_set (i := 8) sc__law_draw_spans.nd rfl (by first | exact Or.inl rfl | exact Or.inr rfl) (pe_callB (call_min2 rfl) rfl (n_min T) (by decide +kernel) (pa_cons (pv 1) (pa_cons (pe_op op_add (pv 7) (pe_ok (ok__law_draw T) (hr.mono (by first | decide | omega)) rfl pass0 (pa_cons (pv 0) (pa_cons pe_int pa_nil)))) pa_nil))))
      (pss_cons (ps_set (i := 9) sc__law_draw_spans.nd rfl (by first | exact Or.inl rfl | exact Or.inr rfl) (pe_ok (ok__law_draw T) (hr.mono (by first | decide | omega)) rfl pass0 (pa_cons (pv 0) (pa_cons pe_int pa_nil))))
      (pss_cons (ps_if (pt_cmpR op_le (pv 9) pe_int (nomark _)) (pss_one (ps_set (i := 8) sc__law_draw_spans.nd rfl (by first | exact Or.inl rfl | exact Or.inr rfl) (pe_op op_add (pe_op op_add (pv 1) pe_int) (pv 9)))) (pss_one (ps_if (pt_cmpR op_eq (pv 9) pe_int (nomark _)) (pss_cons (ps_set (i := 7) sc__law_draw_spans.nd rfl (by first | exact Or.inl rfl | exact Or.inr rfl) (pe_op op_add (pv 1) pe_int))
      (pss_one (ps_set (i := 8) sc__law_draw_spans.nd rfl (by first | exact Or.inl rfl | exact Or.inr rfl) (pe_op op_add (pv 1) pe_int)))) pss_nil)))
      (pss_cons (ps_set (i := 10) sc__law_draw_spans.nd rfl (by first | exact Or.inl rfl | exact Or.inr rfl) (pe_op op_add (pe_callB (call_max2 rfl) rfl (n_max T) (by decide +kernel) (pa_cons pe_int (pa_cons (pe_op op_add (pe_op op_sub (pe_callB (call_min2 rfl) rfl (n_min T) (by decide +kernel) (pa_cons (pv 8) (pa_cons (pv 1) pa_nil))) (pv 7)) pe_int) pa_nil))) (pe_ifExp (pt_cmpR op_gt (pv 8) (pv 1) (nomark _)) pe_int pe_int)))
      (pss_cons (ps_if (pt_cmpR op_gt (pe_op op_mul (pv 5) (pv 10)) (pv 3) (nomark _)) (pss_cons (ps_set (i := 8) sc__law_draw_spans.nd rfl (by first | exact Or.inl rfl | exact Or.inr rfl) (pv 7))
      (pss_one (ps_set (i := 10) sc__law_draw_spans.nd rfl (by first | exact Or.inl rfl | exact Or.inr rfl) pe_int))) pss_nil)
      (pss_cons (ps_set (i := 5) sc__law_draw_spans.nd rfl (by first | exact Or.inl rfl | exact Or.inr rfl) (pe_op op_mul (pv 5) (pv 10)))
      (pss_one (ps_expr (pe_bm PySem.F.plainAttrs_list PySem.F.slot_list_append PySem.F.type_list_append mt_append (pv 4) (pa_cons (pe_tup (pa_cons (pv 7) (pa_cons (pv 8) pa_nil))) pa_nil))))))))))))
      (pss_one (ps_ret (pv 4)))))), ?_⟩
    obtain ⟨sx, sy, sz, hsa⟩ := id hst
    refine ⟨(by show 0 ≤ sizeLine; decide), fun F hF => ?_⟩
    obtain ⟨s1, g1⟩ := new2 (.lst []) hF
    have Fsa : F ≠ sa := fun z => by
      have := hst.ne
      rw [← z, hF] at this
      exact this rfl
    refine ⟨_, rfl, _, rfl, by omega, by omega, for_upto (lo := 0) (L := n) (by omega) (fun i σ H' => ∃ tot v6 v7 v8 v9 v10 xs ws, σ = [some (.ref sa), some (.int TT), some (.int n), some (.int lim), some (.ref F), some (.int tot), v6, v7, v8, v9, v10] ∧ But sa H H' ∧ Stk H' sa ∧ H' F = some (.lst xs) ∧ Paired (PairT H') xs ws ∧ ws.length = i ∧ ∀ c ∈ ws, SpanOk TT c) ⟨1, _, _, _, _, _, [], [], rfl, But.of s1, hst.same s1, g1, .nil, rfl, fun c hc => by cases hc⟩ ?_ ?_⟩
    · rintro i σ H1 hi ⟨tot, v6, v7, v8, v9, v10, xs, ws, rfl, e1, st1, hF1, hP1, hwl, hok⟩
      refine gnE ?_
      refine ⟨_, rfl, _, rfl, sa, _, rfl, by omega, by omega, st1, fun r a b c r0 r1 => ⟨_, _, rfl, rfl, ?_⟩⟩
      refine ⟨_, rfl, _, rfl, _, rfl, sa, _, rfl, by decide, by decide, ⟨a, b, c, upd_same⟩, fun q a b c q0 q1 => ⟨_, _, rfl, rfl, _, _, rfl, ?_⟩⟩
      refine ⟨_, rfl, sa, _, rfl, by decide, by decide, ⟨a, b, c, upd_same⟩, fun kd a b c k0 k1 => ?_⟩
      generalize hb : upd (upd (upd H1 sa _) sa _) sa _ = H3
      have b3 : But sa H1 H3 := by rw [← hb]; exact (But.refl sa H1).upd.upd.upd
      have st3 : Stk H3 sa := by rw [← hb]; exact ⟨_, _, _, upd_same⟩
      clear hb
      refine nxE (seq_via (fun σ' H4 => ∃ f' l' v9 v10, σ' = [some (.ref sa), some (.int TT), some (.int n), some (.int lim), some (.ref F), some (.int tot), some (.int (0 + (i : Int))), some (.int f'), some (.int l'), v9, v10] ∧ SpanOk TT (f', l') ∧ H4 = H3) (fun U hU => ?_) ?_)
      · have e0 : ∃ mm, (if 1 + r + q < (TT : Int) then 1 + r + q else (TT : Int)) = mm ∧ 1 + r ≤ mm ∧ mm ≤ (TT : Int) := ⟨_, rfl, by split <;> omega, by split <;> omega⟩
        obtain ⟨mm, em, m1, m2⟩ := e0
        refine ⟨_, rfl, _, _, rfl, rfl, _, rfl, ?_⟩
        refine ite2 (fun c => ?_) (fun c => ?_)
        · have c := of_decide_eq_true c
          exact ⟨_, rfl, _, _, rfl, rfl, _, rfl, _, _, rfl, rfl, hU _ _ ⟨1 + r, (TT : Int) + 1 + kd, _, _, rfl, (by unfold SpanOk; refine ⟨?_, ?_, ?_, ?_⟩ <;> simp <;> omega), rfl⟩⟩
        · refine ⟨_, rfl, rfl, _, rfl, ite2 (fun c3 => ?_) (fun c3 => ?_)⟩
          · exact ⟨_, rfl, _, _, rfl, rfl, _, rfl, _, _, rfl, rfl, hU _ _ ⟨(TT : Int) + 1, (TT : Int) + 2, _, _, rfl, (by unfold SpanOk; refine ⟨?_, ?_, ?_, ?_⟩ <;> simp <;> omega), rfl⟩⟩
          · refine hU _ _ ⟨1 + r, mm, some (.int kd), v10, ?_, (by unfold SpanOk; refine ⟨?_, ?_, ?_, ?_⟩ <;> simp <;> omega), rfl⟩
            rw [← em]
            rfl
      · rintro σ4 H4 ⟨f', l', v9, v10, rfl, hok', rfl⟩
        have hok'' := hok'
        unfold SpanOk at hok'
        refine st_let (fun v H' => ∃ wy : Int, v = .int wy ∧ 0 ≤ wy ∧ wy ≤ 100 ∧ H' = H4) (fun R hR => ?_) ?_
        · refine ⟨_, rfl, _, rfl, _, _, rfl, _, rfl, _, _, rfl, rfl, _, _, rfl, rfl, _, _, rfl, ?_⟩
          rw [min2, max2]
          refine ⟨_, rfl, _, rfl, _, _, rfl, rfl, _, rfl, ite2 (fun c => ?_) (fun c => ?_)⟩
          · exact ⟨_, _, rfl, rfl, hR _ _ ⟨_, rfl, by omega, by omega, rfl⟩⟩
          · exact ⟨_, _, rfl, rfl, hR _ _ ⟨_, rfl, by omega, by omega, rfl⟩⟩
        · rintro v H5 ⟨wy, rfl, y0, y1, rfl⟩
          refine (seq_via (fun σ' H' => ∃ l'' wy', σ' = [some (.ref sa), some (.int TT), some (.int n), some (.int lim), some (.ref F), some (.int tot), some (.int (0 + (i : Int))), some (.int f'), some (.int l''), v9, some (.int wy')] ∧ SpanOk TT (f', l'') ∧ 0 ≤ wy' ∧ wy' ≤ 100 ∧ H' = H5) (fun U hU => ?_) ?_)
          · refine ⟨_, rfl, _, rfl, _, _, rfl, rfl, .inr (by constructor <;> omega), _, rfl, _, _, rfl, rfl, _, rfl, ite2 (fun c => ?_) (fun c => ?_)⟩
            · exact ⟨_, rfl, hU _ _ ⟨f', 1, rfl, by unfold SpanOk; refine ⟨?_, ?_, ?_, ?_⟩ <;> simp <;> omega, by decide, by decide, rfl⟩⟩
            · exact hU _ _ ⟨l', wy, rfl, hok'', y0, y1, rfl⟩
          · rintro σ6 H6 ⟨l'', wy', rfl, hk, w0, w1, rfl⟩
            have hF6 := b3 _ _ hF1 Fsa
            refine ⟨_, rfl, _, rfl, _, _, rfl, rfl, .inr (by constructor <;> omega), ?_⟩
            refine ⟨_, rfl, .inl ⟨rfl, _, SqL.of hF6⟩, _, rfl, _, rfl, (by show 2 ≤ sizeLine; decide), fun p hp => ?_⟩
            obtain ⟨s7, g7⟩ := new2 (.tup [.int f', .int l'']) hp
            have hF7 := s7 _ _ hF6
            have hxn : xs.length = i := by rw [Paired.length hP1, hwl]
            obtain ⟨tx, ty, tz, hs1⟩ := id st1
            refine ⟨F, xs, _, rfl, rfl, hF7, line_lt (by omega), ?_⟩
            refine ⟨_, _, _, _, _, _, xs ++ [V.ref p], ws ++ [(f', l'')], rfl, (e1.trans (b3.trans (But.of s7))).mut hF, (st3.same s7).but Fsa.symm, upd_same, ?_, by rw [List.length_append, hwl]; rfl, fun c hc => ?_⟩
            · exact Paired.snoc (Paired.mapP hP1 fun _ _ z => ((z.but hs1 b3).same s7).mut hF7) (PairT.mut hF7 ⟨p, rfl, g7⟩)
            · rcases List.mem_append.mp hc with hc | hc
              · exact hok c hc
              · rw [List.mem_singleton.mp hc]
                exact hk
    · rintro σ H1 ⟨tot, v6, v7, v8, v9, v10, xs, ws, rfl, e1, st1, hF1, hP1, hwl, hok⟩
      exact ⟨_, rfl, k F xs ws H1 hF e1 st1 hF1 hP1 hwl hok⟩
end
end K26
end
section
set_option maxRecDepth 100000
set_option maxHeartbeats 4000000
namespace K26
open PySem PySem.Spec PyProof.Rows L2
theorem SpanOk.good {T : Nat} {ws : List (Int × Int)} (h : ∀ c ∈ ws, SpanOk T c) : ∀ r ∈ ws.map canR, GoodR r := fun r hr => by
  obtain ⟨c, hc, rfl⟩ := List.mem_map.mp hr
  have := h c hc
  unfold SpanOk at this
  unfold GoodR canR
  refine ⟨this.1, this.2.1, by show (0 : Int) ≤ 1; decide, by show (1 : Int) ≤ 1; decide, by show (1 : Int) ≤ 10 ^ 12; decide⟩
theorem OneCan.can {ws : List (Int × Int)} : OneCan (ws.map canR) := fun r hr => by
  obtain ⟨c, hc, rfl⟩ := List.mem_map.mp hr
  exact ⟨rfl, rfl⟩
/-- what is due of a right weather is what the package tells -/
theorem due_is {ws : List (Int × Int)} {W : List (List (Int × Int))} {T : Nat} (h : wrongOf (ws.map canR) T W = -1) (hg : ∀ r ∈ ws.map canR, GoodR r) :
    (strL T).filter (fun c => isT ws W c.1.toNat c.2.toNat) = tightL (tabR (ws.map canR)) (fellBy W) T := by
  unfold wrongOf at h
  have hl : W.length = T := by
    by_cases c : W.length = T
    · exact c
    · rw [if_neg c] at h
      cases h
  rw [if_pos hl] at h
  have hb : firstBad (ws.map canR) 1 [] W = 0 := by
    by_cases c : firstBad (ws.map canR) 1 [] W = 0
    · exact c
    · rw [if_neg c] at h
      have := firstBad_nn (ws.map canR) W (k := 1) (g := []) (by omega)
      omega
  unfold tightL
  refine List.filter_congr fun c hc => ?_
  obtain ⟨a, b, h1, h2, rfl⟩ := strL_mem hc
  have := tight_is hb (a := a) (b := b) (by omega) (by omega) hg
  unfold tgB
  exact this.symm
section
variable {P : Program} {w : World} {K : PySem.W.Frag} {mg : Str → Option Value} {base : Heap}
theorem ok_mt3 (T : Txt w K mg) : Ok P w K mg base CX0 4 "_law_matches" ["answer", "due"] (spMt (Mt 3)) :=
  mt_gen (k := 3) T (fun T => ok_mt2 T) (fun _ v u _ h q => ⟨v, u, rfl, h, q⟩) (fun _ _ _ _ e h => Mt.same (k := 2) e h)
end
end K26
end
section
set_option maxRecDepth 100000
set_option maxHeartbeats 4000000
namespace K26
open PySem PySem.Spec PyProof.Rows L2
theorem app1 {H H1 : Hp} {a t : Addr} {xs : List V} (s : Same H H1) (ha : H a = none) (hF : H1 a = some (.lst [])) (hT : H1 t = some (.tup xs)) : ∃ H2, H2 = upd H1 a (.lst ([] ++ [V.ref t])) ∧ Same H H2 ∧ H2 t = some (.tup xs) ∧ H2 a = some (.lst [V.ref t]) :=
  ⟨_, rfl, same_mut s ha, by rw [upd_ne fun z => by rw [z, hF] at hT; cases hT]; exact hT, upd_same⟩
section
variable {P : Program} {w : World} {K : PySem.W.Frag} {mg : Str → Option Value} {base : Heap}
theorem body_BadSky (T : Txt w K mg) {A : Around} {outer : List Env} {s : Shared} {H : Hp} {Q : VK} {p : Addr × Obj} {d : Addr} {v : V} {f : Addr} {cdv : Value} (hz : Zc (.ref (cSk K)) (some d) p.2) (hf : ∃ vs, p.2.data = .fields vs)
    (hd : H d = some (.xd [("row", v)])) (q : ∀ r l t H', Same H H' → H' t = some (.tup [.str "BadSky", v]) → H' l = some (.lst [.ref t]) → H' r = some (.tup [.str "raised", .ref l]) → H r = none → Q (.ref r) H') :
    ∃ t, PSs (L2H.cxH CX0 P w K mg base ["raised", "found"] "_law_caught" (defScope s__law_caught) f cdv A outer s H E0 p) (defBody s__law_caught) t ∧ t { nx := fun _ H' => Q .non H', rt := Q } (L2.start ["raised", "found"] [.ref p.1]) H := by
  refine ⟨_, (pss_cons (ps_set (i := 1) sc__law_caught.nd rfl (by first | exact Or.inl rfl | exact Or.inr rfl) (pe_lst pa_nil))
      (pss_cons (ps_if (pt_val (pe_callB (call_isD (p := p) (D := cSk K) (d := d) List.mem_cons_self (xt_BadSky T).exc hz hf) rfl (n_isinstance T) (by decide +kernel) (pa_cons (pv 0) (pa_cons (pe_glob (v := .ref _) rfl (g_TooMany T) rfl) pa_nil)))) (pss_one (ps_expr (pe_bm PySem.F.plainAttrs_list PySem.F.slot_list_append PySem.F.type_list_append mt_append (pv 1) (pa_cons (pe_tup (pa_cons pe_str (pa_cons pe_noway pa_nil))) pa_nil)))) pss_nil)
      (pss_cons (ps_if (pt_val (pe_callB (call_isD (p := p) (D := cSk K) (d := d) List.mem_cons_self (xt_BadSky T).exc hz hf) rfl (n_isinstance T) (by decide +kernel) (pa_cons (pv 0) (pa_cons (pe_glob (v := .ref _) rfl (g_BadSky T) rfl) pa_nil)))) (pss_one (ps_expr (pe_bm PySem.F.plainAttrs_list PySem.F.slot_list_append PySem.F.type_list_append mt_append (pv 1) (pa_cons (pe_tup (pa_cons pe_str (pa_cons (pe_xfG (p := p) (C := cSk K) List.mem_cons_self (xt_BadSky T).xf (xn_BadSky_row T) hz hf (pv 0)) pa_nil))) pa_nil)))) pss_nil)
      (pss_cons (ps_if (pt_val (pe_callB (call_isD (p := p) (D := cSk K) (d := d) List.mem_cons_self (xt_BadSky T).exc hz hf) rfl (n_isinstance T) (by decide +kernel) (pa_cons (pv 0) (pa_cons (pe_glob (v := .ref _) rfl (g_BadWeather T) rfl) pa_nil)))) (pss_one (ps_expr (pe_bm PySem.F.plainAttrs_list PySem.F.slot_list_append PySem.F.type_list_append mt_append (pv 1) (pa_cons (pe_tup (pa_cons pe_str (pa_cons pe_noway pa_nil))) pa_nil)))) pss_nil)
      (pss_cons (ps_if (pt_val (pe_callB (call_isD (p := p) (D := cSk K) (d := d) List.mem_cons_self (xt_BadSky T).exc hz hf) rfl (n_isinstance T) (by decide +kernel) (pa_cons (pv 0) (pa_cons (pe_glob (v := .ref _) rfl (g_BadTable T) rfl) pa_nil)))) (pss_one (ps_expr (pe_bm PySem.F.plainAttrs_list PySem.F.slot_list_append PySem.F.type_list_append mt_append (pv 1) (pa_cons (pe_tup (pa_cons pe_str (pa_cons pe_noway (pa_cons pe_noway pa_nil)))) pa_nil)))) pss_nil)
      (pss_cons (ps_if (pt_val (pe_callB (call_isD (p := p) (D := cSk K) (d := d) List.mem_cons_self (xt_BadSky T).exc hz hf) rfl (n_isinstance T) (by decide +kernel) (pa_cons (pv 0) (pa_cons (pe_glob (v := .ref _) rfl (g_BadSetting T) rfl) pa_nil)))) (pss_one (ps_expr (pe_bm PySem.F.plainAttrs_list PySem.F.slot_list_append PySem.F.type_list_append mt_append (pv 1) (pa_cons (pe_tup (pa_cons pe_str (pa_cons pe_noway pa_nil))) pa_nil)))) pss_nil)
      (pss_one (ps_ret (pe_tup (pa_cons pe_str (pa_cons (pv 1) pa_nil))))))))))), ?_⟩

  refine ⟨(by show 0 ≤ sizeLine; decide), fun a ha => ?_⟩
  obtain ⟨h0, hF⟩ := new2 (.lst []) ha
  refine ⟨_, rfl, _, _, false, _, rfl, (fun u e => e), h0 _ _ hd, xk_BadSky_TooMany T, _, rfl, iteF ?_⟩
  refine ⟨_, rfl, _, _, true, _, rfl, (fun u e => e), h0 _ _ hd, xk_BadSky_BadSky T, _, rfl, iteT ?_⟩
  refine ⟨_, rfl, .inl ⟨rfl, _, SqL.of hF⟩, _, rfl, rfl, rfl, d, _, v, rfl, h0 _ _ hd, rfl, (by show 2 ≤ sizeLine; decide), fun t ht => ?_⟩
  obtain ⟨hA, hT⟩ := new2 (.tup [.str "BadSky", v]) ht
  have hF := hA _ _ hF
  have h1 := h0.trans hA
  refine ⟨a, [], _, rfl, rfl, hF, (by show 0 < sizeLine; decide), ?_⟩
  obtain ⟨H2, eH, h2, hT, hF⟩ := app1 h1 ha hF hT
  rw [← eH]
  clear hA eH
  refine ⟨_, rfl, _, _, false, _, rfl, (fun u e => e), h2 _ _ hd, xk_BadSky_BadWeather T, _, rfl, iteF ?_⟩
  refine ⟨_, rfl, _, _, false, _, rfl, (fun u e => e), h2 _ _ hd, xk_BadSky_BadTable T, _, rfl, iteF ?_⟩
  refine ⟨_, rfl, _, _, false, _, rfl, (fun u e => e), h2 _ _ hd, xk_BadSky_BadSetting T, _, rfl, iteF ?_⟩
  refine ⟨_, rfl, (by show 2 ≤ sizeLine; decide), fun r hr_ => ?_⟩
  obtain ⟨hA, hR⟩ := new2 (.tup [.str "raised", .ref a]) hr_
  exact q _ _ _ _ (h2.trans hA) (hA _ _ hT) (hA _ _ hF) hR (none_of h2 hr_)

theorem body_BadWeather (T : Txt w K mg) {A : Around} {outer : List Env} {s : Shared} {H : Hp} {Q : VK} {p : Addr × Obj} {d : Addr} {v : V} {f : Addr} {cdv : Value} (hz : Zc (.ref (cWe K)) (some d) p.2) (hf : ∃ vs, p.2.data = .fields vs)
    (hd : H d = some (.xd [("day", v)])) (q : ∀ r l t H', Same H H' → H' t = some (.tup [.str "BadWeather", v]) → H' l = some (.lst [.ref t]) → H' r = some (.tup [.str "raised", .ref l]) → H r = none → Q (.ref r) H') :
    ∃ t, PSs (L2H.cxH CX0 P w K mg base ["raised", "found"] "_law_caught" (defScope s__law_caught) f cdv A outer s H E0 p) (defBody s__law_caught) t ∧ t { nx := fun _ H' => Q .non H', rt := Q } (L2.start ["raised", "found"] [.ref p.1]) H := by
  refine ⟨_, (pss_cons (ps_set (i := 1) sc__law_caught.nd rfl (by first | exact Or.inl rfl | exact Or.inr rfl) (pe_lst pa_nil))
      (pss_cons (ps_if (pt_val (pe_callB (call_isD (p := p) (D := cWe K) (d := d) List.mem_cons_self (xt_BadWeather T).exc hz hf) rfl (n_isinstance T) (by decide +kernel) (pa_cons (pv 0) (pa_cons (pe_glob (v := .ref _) rfl (g_TooMany T) rfl) pa_nil)))) (pss_one (ps_expr (pe_bm PySem.F.plainAttrs_list PySem.F.slot_list_append PySem.F.type_list_append mt_append (pv 1) (pa_cons (pe_tup (pa_cons pe_str (pa_cons pe_noway pa_nil))) pa_nil)))) pss_nil)
      (pss_cons (ps_if (pt_val (pe_callB (call_isD (p := p) (D := cWe K) (d := d) List.mem_cons_self (xt_BadWeather T).exc hz hf) rfl (n_isinstance T) (by decide +kernel) (pa_cons (pv 0) (pa_cons (pe_glob (v := .ref _) rfl (g_BadSky T) rfl) pa_nil)))) (pss_one (ps_expr (pe_bm PySem.F.plainAttrs_list PySem.F.slot_list_append PySem.F.type_list_append mt_append (pv 1) (pa_cons (pe_tup (pa_cons pe_str (pa_cons pe_noway pa_nil))) pa_nil)))) pss_nil)
      (pss_cons (ps_if (pt_val (pe_callB (call_isD (p := p) (D := cWe K) (d := d) List.mem_cons_self (xt_BadWeather T).exc hz hf) rfl (n_isinstance T) (by decide +kernel) (pa_cons (pv 0) (pa_cons (pe_glob (v := .ref _) rfl (g_BadWeather T) rfl) pa_nil)))) (pss_one (ps_expr (pe_bm PySem.F.plainAttrs_list PySem.F.slot_list_append PySem.F.type_list_append mt_append (pv 1) (pa_cons (pe_tup (pa_cons pe_str (pa_cons (pe_xfG (p := p) (C := cWe K) List.mem_cons_self (xt_BadWeather T).xf (xn_BadWeather_day T) hz hf (pv 0)) pa_nil))) pa_nil)))) pss_nil)
      (pss_cons (ps_if (pt_val (pe_callB (call_isD (p := p) (D := cWe K) (d := d) List.mem_cons_self (xt_BadWeather T).exc hz hf) rfl (n_isinstance T) (by decide +kernel) (pa_cons (pv 0) (pa_cons (pe_glob (v := .ref _) rfl (g_BadTable T) rfl) pa_nil)))) (pss_one (ps_expr (pe_bm PySem.F.plainAttrs_list PySem.F.slot_list_append PySem.F.type_list_append mt_append (pv 1) (pa_cons (pe_tup (pa_cons pe_str (pa_cons pe_noway (pa_cons pe_noway pa_nil)))) pa_nil)))) pss_nil)
      (pss_cons (ps_if (pt_val (pe_callB (call_isD (p := p) (D := cWe K) (d := d) List.mem_cons_self (xt_BadWeather T).exc hz hf) rfl (n_isinstance T) (by decide +kernel) (pa_cons (pv 0) (pa_cons (pe_glob (v := .ref _) rfl (g_BadSetting T) rfl) pa_nil)))) (pss_one (ps_expr (pe_bm PySem.F.plainAttrs_list PySem.F.slot_list_append PySem.F.type_list_append mt_append (pv 1) (pa_cons (pe_tup (pa_cons pe_str (pa_cons pe_noway pa_nil))) pa_nil)))) pss_nil)
      (pss_one (ps_ret (pe_tup (pa_cons pe_str (pa_cons (pv 1) pa_nil))))))))))), ?_⟩

  refine ⟨(by show 0 ≤ sizeLine; decide), fun a ha => ?_⟩
  obtain ⟨h0, hF⟩ := new2 (.lst []) ha
  refine ⟨_, rfl, _, _, false, _, rfl, (fun u e => e), h0 _ _ hd, xk_BadWeather_TooMany T, _, rfl, iteF ?_⟩
  refine ⟨_, rfl, _, _, false, _, rfl, (fun u e => e), h0 _ _ hd, xk_BadWeather_BadSky T, _, rfl, iteF ?_⟩
  refine ⟨_, rfl, _, _, true, _, rfl, (fun u e => e), h0 _ _ hd, xk_BadWeather_BadWeather T, _, rfl, iteT ?_⟩
  refine ⟨_, rfl, .inl ⟨rfl, _, SqL.of hF⟩, _, rfl, rfl, rfl, d, _, v, rfl, h0 _ _ hd, rfl, (by show 2 ≤ sizeLine; decide), fun t ht => ?_⟩
  obtain ⟨hA, hT⟩ := new2 (.tup [.str "BadWeather", v]) ht
  have hF := hA _ _ hF
  have h1 := h0.trans hA
  refine ⟨a, [], _, rfl, rfl, hF, (by show 0 < sizeLine; decide), ?_⟩
  obtain ⟨H2, eH, h2, hT, hF⟩ := app1 h1 ha hF hT
  rw [← eH]
  clear hA eH
  refine ⟨_, rfl, _, _, false, _, rfl, (fun u e => e), h2 _ _ hd, xk_BadWeather_BadTable T, _, rfl, iteF ?_⟩
  refine ⟨_, rfl, _, _, false, _, rfl, (fun u e => e), h2 _ _ hd, xk_BadWeather_BadSetting T, _, rfl, iteF ?_⟩
  refine ⟨_, rfl, (by show 2 ≤ sizeLine; decide), fun r hr_ => ?_⟩
  obtain ⟨hA, hR⟩ := new2 (.tup [.str "raised", .ref a]) hr_
  exact q _ _ _ _ (h2.trans hA) (hA _ _ hT) (hA _ _ hF) hR (none_of h2 hr_)

end
end K26
end
section
set_option maxRecDepth 100000
set_option maxHeartbeats 4000000
namespace K26
open PySem PySem.Spec PyProof.Rows L2
section
variable {P : Program} {w : World} {K : PySem.W.Frag} {mg : Str → Option Value} {base : Heap}
def ErrC (K : PySem.W.Frag) (C : Addr) (z fl : Str) : Prop := (C = cSk K ∧ z = "BadSky" ∧ fl = "row") ∨ (C = cWe K ∧ z = "BadWeather" ∧ fl = "day")
def spErr (K : PySem.W.Frag) : SpE := fun a cls d vs H Q _ => ∃ (C : Addr) (z fl : Str) (d' : Addr) (v : V), ErrC K C z fl ∧ vs = [.ref a] ∧ cls = .ref C ∧ d = some d' ∧ H d' = some (.xd [(fl, v)]) ∧ ∀ r l t H', Same H H' → H' t = some (.tup [.str z, v]) → H' l = some (.lst [.ref t]) → H' r = some (.tup [.str "raised", .ref l]) → H r = none → Q (.ref r) H'
theorem fe_caught (T : Txt w K mg) : ∃ f fd, FnE P w K mg base 1 f fd ["raised"] (spErr K) ∧ mg "_law_caught" = some (.ref f) ∧ PySem.W.keepIn K (.ref f) = true ∧ Binds K fd ["raised"] [] := by
  obtain ⟨f, fd, F, g⟩ := f__law_caught T
  refine ⟨f, fd, ?_, g, F.kp, F.bindsN (fun _ _ _ _ _ _ us hl => match us, hl with | [_], _ => rfl)⟩
  obtain ⟨oc, od, dV, kV, doc, pm, an, cdv, ct, osl, rfl, lk, hcd, _, _⟩ := F.ex
  refine fnE_of (k := 0) lk hcd sc__law_caught (fun a cls d vs H Q E h => ?_) (fun A outer s H vs Q p cls d hr hz hf h => ?_)
  · obtain ⟨C, z, fl, d', v, _, rfl, _⟩ := h
    rfl
  · obtain ⟨C, z, fl, d', v, hC, rfl, rfl, rfl, hd, q⟩ := h
    rcases hC with ⟨rfl, rfl, rfl⟩ | ⟨rfl, rfl, rfl⟩
    · exact body_BadSky T hz hf hd q
    · exact body_BadWeather T hz hf hd q
theorem ErrC.seen (T : Txt w K mg) {C : Addr} {z fl : Str} (h : ErrC K C z fl) : PySem.W.exmOne K (.ref C) (.ref (He.ga K "SeenError")) = some true := by
  rcases h with ⟨rfl, _⟩ | ⟨rfl, _⟩
  · exact xs_BadSky T
  · exact xs_BadWeather T
end
end K26
end
section
set_option maxRecDepth 100000
set_option maxHeartbeats 4000000
namespace K26
open PySem PySem.Spec PyProof.Rows L2
section
variable {P : Program} {w : World} {K : PySem.W.Frag} {mg : Str → Option Value} {base : Heap}
/-- what is told, in a couple -/
def Told (K : PySem.W.Frag) (H : Hp) (r : Addr) (L : List (Int × Int)) : Prop := ∃ l ys, H r = some (.tup [.str "told", .ref l]) ∧ H l = some (.lst ys) ∧ Paired (PairT H) ys L
def Rsd (H : Hp) (r : Addr) (z : Str) (n : Int) : Prop := ∃ l t, H r = some (.tup [.str "raised", .ref l]) ∧ H l = some (.lst [.ref t]) ∧ H t = some (.tup [.str z, .int n])
def spAskK (K : PySem.W.Frag) : Sp := fun vs H Q _ => ∃ (T : Nat) (p : Addr) (rs : List Q4), vs = [.ref p] ∧ AlmAt K H p T rs ∧ rs.length ≤ 40 ∧ T ≤ 24 ∧ (∀ r ∈ rs, GoodR r) ∧ (OneCan rs → ∀ r H', Same H H' → Told K H' r (keysL (tabR rs) T) → Q (.ref r) H') ∧ (∀ n, BadCan rs n → ∀ r H', Same H H' → Rsd H' r "BadSky" ((n : Int) + 1) → Q (.ref r) H')
theorem ok__law_ask_keys (T : Txt w K mg) : Ok P w K mg base CX0 9 "_law_ask_keys" ["almanac"] (spAskK K) := by
  obtain ⟨fe, fde, FE, ge, ke, be⟩ := fe_caught (P := P) (base := base) T
  refine Ok.def0 (f__law_ask_keys T) (fun _ _ _ _ _ _ us hl => match us, hl with | [_], _ => rfl) sc__law_ask_keys (fun vs H Q E h => ?_) (fun f cdv A outer s H vs Q E hr h => ?_)
  · obtain ⟨TT, p, rs, rfl, _⟩ := h
    rfl
  · obtain ⟨TT, p, rs, rfl, hA, hl, hT, hg, kt, kr⟩ := h
    refine ⟨_, (pss_one (L2.ps_try_as (ts := fun a cls d => tRet (tCallE (spErr K a cls d) (tCons (tVar 1) tNil))) (i := 1) (c := .ref (He.ga K "SeenError")) rfl rfl sc__law_ask_keys.nd rfl rfl ⟨rfl, by decide, .inl (g_SeenError T)⟩ LamX.takes0 (fun W pn xe tk _ => pss_one (ps_ret (pe_tup (pa_cons pe_str (pa_cons (pe_okS (ok_key_stretches T) (hr.mono (by first | decide | omega)) rfl (fun σ => passAt tk σ) (pa_cons (pv 0) pa_nil)) pa_nil))))) (fun a oe cls d pn hz hf => pss_one (ps_ret (pe_callE (X := Cx.suite (Cx.nox (cxOf CX0 P w K mg base ["almanac", "raised"] "_law_ask_keys" (defScope s__law_ask_keys) f cdv A outer s H E)) a ((a, oe) :: pn)) (x := "_law_caught") (p := (a, oe)) FE (L2H.RoomH.mk (hr.mono (by decide : 1 ≤ 8)).dp (hr.mono (by decide : 1 ≤ 8)).un) List.mem_cons_self hz hf rfl ge ke be (pa_cons (pv 1) pa_nil)))))), ?_⟩
    refine ⟨_, rfl, TT, p, rs, rfl, hA, hl, hT, hg, fun hone q ys H1 hq s1 g1 hP => ?_, fun n hb d H' s1 hd => ?_⟩
    · refine ⟨(by show 2 ≤ sizeLine; decide), fun r hr_ => ?_⟩
      obtain ⟨s2, g2⟩ := new2 (.tup [.str "told", .ref q]) hr_
      exact kt hone r _ (s1.trans s2) ⟨q, ys, g2, s2 _ _ g1, Paired.mapP hP fun _ _ z => z.same s2⟩
    · exact ⟨true, ErrC.seen T (.inl ⟨rfl, rfl, rfl⟩), fun _ a ha => ⟨_, rfl, _, _, _, d, _, .inl ⟨rfl, rfl, rfl⟩, rfl, rfl, rfl, hd, fun r l t H3 s3 ht hl hr hr0 => kr n hb r H3 (s1.trans s3) ⟨l, t, hr, hl, ht⟩⟩, fun z => by cases z⟩
def spAskT (K : PySem.W.Frag) : Sp := fun vs H Q _ => ∃ (T : Nat) (p a : Addr) (rs : List Q4) (W : List (List (Int × Int))), vs = [.ref p, .ref a] ∧ AlmAt K H p T rs ∧ WeaT H a W ∧ T ≤ 24 ∧ W.length ≤ 100 ∧ rs.length ≤ 40 ∧ (∀ r ∈ rs, GoodR r) ∧ total W ≤ 2000 ∧ (∀ n, BadCan rs n → ∀ r H', Same H H' → Rsd H' r "BadSky" ((n : Int) + 1) → Q (.ref r) H') ∧ (OneCan rs → wrongOf rs T W ≠ -1 → ∀ r H', Same H H' → Rsd H' r "BadWeather" (wrongOf rs T W) → Q (.ref r) H') ∧ (OneCan rs → wrongOf rs T W = -1 → ∀ r H', Same H H' → Told K H' r (tightL (tabR rs) (fellBy W) T) → Q (.ref r) H')
theorem ok__law_ask_tight (T : Txt w K mg) : Ok P w K mg base CX0 9 "_law_ask_tight" ["almanac", "weather"] (spAskT K) := by
  obtain ⟨fe, fde, FE, ge, ke, be⟩ := fe_caught (P := P) (base := base) T
  refine Ok.def0 (f__law_ask_tight T) (fun _ _ _ _ _ _ us hl => match us, hl with | [_, _], _ => rfl) sc__law_ask_tight (fun vs H Q E h => ?_) (fun f cdv A outer s H vs Q E hr h => ?_)
  · obtain ⟨TT, p, a, rs, W, rfl, _⟩ := h
    rfl
  · obtain ⟨TT, p, a, rs, W, rfl, hA, hWt, hT, hW, hl, hg, htot, kr, kw, kt⟩ := h
    refine ⟨_, (pss_one (L2.ps_try_as (ts := fun a cls d => tRet (tCallE (spErr K a cls d) (tCons (tVar 2) tNil))) (i := 2) (c := .ref (He.ga K "SeenError")) rfl rfl sc__law_ask_tight.nd rfl rfl ⟨rfl, by decide, .inl (g_SeenError T)⟩ LamX.takes0 (fun W pn xe tk _ => pss_one (ps_ret (pe_tup (pa_cons pe_str (pa_cons (pe_okS (ok_tight_stretches T) (hr.mono (by first | decide | omega)) rfl (fun σ => passAt tk σ) (pa_cons (pv 0) (pa_cons (pv 1) pa_nil))) pa_nil))))) (fun a oe cls d pn hz hf => pss_one (ps_ret (pe_callE (X := Cx.suite (Cx.nox (cxOf CX0 P w K mg base ["almanac", "weather", "raised"] "_law_ask_tight" (defScope s__law_ask_tight) f cdv A outer s H E)) a ((a, oe) :: pn)) (x := "_law_caught") (p := (a, oe)) FE (L2H.RoomH.mk (hr.mono (by decide : 1 ≤ 8)).dp (hr.mono (by decide : 1 ≤ 8)).un) List.mem_cons_self hz hf rfl ge ke be (pa_cons (pv 2) pa_nil)))))), ?_⟩
    refine ⟨_, rfl, _, rfl, TT, p, a, rs, W, rfl, hA, hWt, hT, hW, hl, hg, htot, fun n hb d H' s1 hd => ?_, fun hone hw d H' s1 hd => ?_, fun hone hw q ys H1 hq s1 g1 hP => ?_⟩
    · exact ⟨true, ErrC.seen T (.inl ⟨rfl, rfl, rfl⟩), fun _ a ha => ⟨_, rfl, _, _, _, d, _, .inl ⟨rfl, rfl, rfl⟩, rfl, rfl, rfl, hd, fun r l t H3 s3 ht hl hr hr0 => kr n hb r H3 (s1.trans s3) ⟨l, t, hr, hl, ht⟩⟩, fun z => by cases z⟩
    · exact ⟨true, ErrC.seen T (.inr ⟨rfl, rfl, rfl⟩), fun _ a ha => ⟨_, rfl, _, _, _, d, _, .inr ⟨rfl, rfl, rfl⟩, rfl, rfl, rfl, hd, fun r l t H3 s3 ht hl hr hr0 => kw hone hw r H3 (s1.trans s3) ⟨l, t, hr, hl, ht⟩⟩, fun z => by cases z⟩
    · refine ⟨(by show 2 ≤ sizeLine; decide), fun r hr_ => ?_⟩
      obtain ⟨s2, g2⟩ := new2 (.tup [.str "told", .ref q]) hr_
      exact kt hone hw r _ (s1.trans s2) ⟨q, ys, g2, s2 _ _ g1, Paired.mapP hP fun _ _ z => z.same s2⟩
end
end K26
end
section
set_option maxRecDepth 100000
set_option maxHeartbeats 4000000
namespace K26
open PySem PySem.Spec PyProof.Rows L2
theorem paired_setv {α β : Type} {R : α → β → Prop} {x : α} {y : β} (r : R x y) : ∀ (i : Nat) {xs : List α} {ys : List β}, Paired R xs ys → Paired R (xs.set i x) (ys.set i y)
  | _, _, _, .nil => .nil
  | 0, _, _, .cons a t => .cons r t
  | i + 1, _, _, .cons a t => .cons a (paired_setv r i t)
theorem paired_erase {α β : Type} {R : α → β → Prop} : ∀ (i : Nat) {xs : List α} {ys : List β}, Paired R xs ys → Paired R (xs.eraseIdx i) (ys.eraseIdx i)
  | _, _, _, .nil => .nil
  | 0, _, _, .cons a t => t
  | i + 1, _, _, .cons a t => .cons a (paired_erase i t)
theorem total_put {rep' : List (Int × Int)} : ∀ {W : List (List (Int × Int))} {i : Nat} {rep : List (Int × Int)}, W[i]? = some rep → total (W.set i rep') + rep.length = total W + rep'.length
  | [], i, rep, h => by simp at h
  | r :: W, 0, rep, h => by
    have : r = rep := by simpa using h
    rw [List.set_cons_zero, total_cons, total_cons, this]
    omega
  | r :: W, i + 1, rep, h => by
    have := total_put (rep' := rep') (W := W) (i := i) (rep := rep) (by simpa using h)
    rw [List.set_cons_succ, total_cons, total_cons]
    omega
theorem drew {H : Hp} {sa : Addr} (a b c : Int) : But sa H (upd H sa (stk a b c)) ∧ Stk (upd H sa (stk a b c)) sa := ⟨(But.refl sa H).upd, stk_upd⟩
theorem refs_ne {H : Hp} {sa D : Addr} {rs : List Addr} (hs : Stk H sa) (h : H D = some (.lst (rs.map V.ref))) : D ≠ sa := fun z => by
  obtain ⟨a, b, c, hs⟩ := hs
  rw [z, hs] at h
  have := HO.lst.inj (Option.some.inj h)
  cases rs with
  | nil => simp at this
  | cons r rs => simp at this
theorem rep_ne {H : Hp} {sa r : Addr} {xs : List V} {rep : List (Int × Int)} (hs : Stk H sa) (h : H r = some (.lst xs)) (hp : Paired (PairT H) xs rep) : r ≠ sa := fun z => by
  obtain ⟨a, b, c, hs⟩ := hs
  rw [z, hs] at h
  have := HO.lst.inj (Option.some.inj h)
  subst this
  cases hp with
  | cons r _ =>
    obtain ⟨q, e, _⟩ := r
    cases e
/-- a weather of its own lists, by their addresses -/
def WG (H0 H : Hp) (D : Addr) (rs : List Addr) (W : List (List (Int × Int))) : Prop := H D = some (.lst (rs.map V.ref)) ∧ rs.Nodup ∧ D ∉ rs ∧ (∀ r ∈ rs, H0 r = none) ∧ Paired (RepA H) rs W
theorem WG.same {H0 H H' : Hp} (e : Same H H') {D : Addr} {rs : List Addr} {W : List (List (Int × Int))} (h : WG H0 H D rs W) : WG H0 H' D rs W := by
  obtain ⟨h1, h2, h3, h4, h5⟩ := h
  exact ⟨e _ _ h1, h2, h3, h4, Paired.mapP h5 fun _ _ z => z.same e⟩
theorem WG.but {H0 H H' : Hp} {sa : Addr} (hs : Stk H sa) (b : But sa H H') {D : Addr} {rs : List Addr} {W : List (List (Int × Int))} (h : WG H0 H D rs W) : WG H0 H' D rs W := by
  obtain ⟨h1, h2, h3, h4, h5⟩ := h
  obtain ⟨x, y, z, hsa⟩ := id hs
  exact ⟨b _ _ h1 (refs_ne hs h1), h2, h3, h4, Paired.mapP h5 fun _ _ ⟨xs, q1, q2⟩ => ⟨xs, b _ _ q1 (rep_ne hs q1 q2), Paired.mapP q2 fun _ _ z => z.but hsa b⟩⟩
theorem WG.rep {H0 H : Hp} {D : Addr} {rs : List Addr} {W : List (List (Int × Int))} (h : WG H0 H D rs W) {i : Nat} {r : Addr} {rep : List (Int × Int)} (hr : rs[i]? = some r) (hw : W[i]? = some rep) : ∃ xs, H r = some (.lst xs) ∧ Paired (PairT H) xs rep := by
  obtain ⟨h1, h2, h3, h4, h5⟩ := h
  obtain ⟨rep', hrep', xs, q1, q2⟩ := paired_get h5 hr
  rw [hw] at hrep'
  cases hrep'
  exact ⟨xs, q1, q2⟩
theorem WG.edit {H0 H : Hp} {D : Addr} {rs : List Addr} {W : List (List (Int × Int))} (h : WG H0 H D rs W) {i : Nat} {r : Addr} {xs ys : List V} {rep : List (Int × Int)} (hr : rs[i]? = some r) (hx : H r = some (.lst xs)) (hp : Paired (PairT H) ys rep) : WG H0 (upd H r (.lst ys)) D rs (W.set i rep) := by
  obtain ⟨h1, h2, h3, h4, h5⟩ := h
  refine ⟨?_, h2, h3, h4, ?_⟩
  · rw [upd_ne fun z => h3 (by rw [z]; exact List.mem_of_getElem? hr)]
    exact h1
  · refine paired_set h5 (fun y z hy ⟨zs, p1, p2⟩ => ⟨zs, ?_, Paired.mapP p2 fun _ _ t => t.mut hx⟩) ⟨ys, upd_same, Paired.mapP hp fun _ _ t => t.mut hx⟩ h2 hr
    rw [upd_ne hy]
    exact p1
theorem WG.wea {H0 H : Hp} {D : Addr} {rs : List Addr} {W : List (List (Int × Int))} (h : WG H0 H D rs W) : WeaT H D W := by
  obtain ⟨h1, h2, h3, h4, h5⟩ := h
  exact ⟨_, h1, paired_map (Paired.mapP h5 fun r _ ⟨xs, q1, q2⟩ => ⟨r, xs, rfl, q1, q2⟩)⟩
theorem Ev.lenL {K : PySem.W.Frag} {σ : L2.St} {H0 : Hp} {t : TE} {p : Addr} {ys : List V} (h : Ev σ H0 t (.ref p)) (hl : H0 p = some (.lst ys)) : Ev σ H0 (tCB (fun xs H Q => ∃ p ys, xs = [V.ref p] ∧ (SqL K H p ys ∨ SqT K H p ys) ∧ Q (.int ys.length) H) (tCons t tNil)) (.int ys.length) := fun H' R s k =>
  h H' _ s fun H1 s1 => ⟨p, ys, rfl, .inl (SqL.of ((s.trans s1) _ _ hl)), k H1 s1⟩
section
variable {P : Program} {w : World} {K : PySem.W.Frag} {mg : Str → Option Value} {base : Heap}
def spBent : Sp := fun vs H Q _ => ∃ (sa a : Addr) (W : List (List (Int × Int))), vs = [.ref sa, .ref a] ∧ Stk H sa ∧ WeaT H a W ∧ 1 ≤ W.length ∧ W.length ≤ 24 ∧ total W ≤ 40 ∧ ∀ p W' H', But sa H H' → Stk H' sa → WeaT H' p W' → W'.length ≤ 25 → total W' ≤ 41 → Q (.ref p) H'
theorem ok__law_bent_weather (T : Txt w K mg) : Ok P w K mg base CX0 2 "_law_bent_weather" ["stock", "weather"] spBent := by
  refine Ok.def0 (f__law_bent_weather T) (fun _ _ _ _ _ _ us hl => match us, hl with | [_, _], _ => rfl) sc__law_bent_weather (fun vs H Q E h => ?_) (fun f cdv A outer s H vs Q E hr h => ?_)
  · obtain ⟨sa, a, W, rfl, _⟩ := h
    rfl
  · obtain ⟨sa, a, W, rfl, hst, ⟨ys, w1, w2⟩, hW1, hW2, htot, k⟩ := h
    refine ⟨_, (pss_cons (ps_setLc (i := 3) (own := [("report", 2)]) rfl sc__law_bent_weather.nd rfl rfl (sw_true rfl rfl rfl (by decide +kernel)) (pi_listK (K := K) rfl (pv 1)) (blkOk_by (N := ["stock", "weather", "report", "bent", "kind", "day", "other", "fall", "place", "at"]) (sc := defScope s__law_bent_weather) (by decide +kernel)) (fun _ _ _ _ _ => (pg_name (i := 2) sc__law_bent_weather.nd rfl (by first | exact Or.inl rfl | exact Or.inr rfl))) (fun _ _ _ _ _ => pts_nil) (fun _ _ _ _ _ => (pe_callTy (list_ofK (K := K) rfl) rfl (n_list T) (by decide +kernel) (pa_cons (pv 2) pa_nil))))
      (pss_cons (ps_set (i := 4) sc__law_bent_weather.nd rfl (by first | exact Or.inl rfl | exact Or.inr rfl) (pe_ok (ok__law_draw T) (hr.mono (by first | decide | omega)) rfl pass0 (pa_cons (pv 0) (pa_cons pe_int pa_nil))))
      (pss_cons (ps_set (i := 5) sc__law_bent_weather.nd rfl (by first | exact Or.inl rfl | exact Or.inr rfl) (pe_ok (ok__law_draw T) (hr.mono (by first | decide | omega)) rfl pass0 (pa_cons (pv 0) (pa_cons (pe_callB (len_seqK (K := K) rfl) rfl (n_len T) (by decide +kernel) (pa_cons (pv 3) pa_nil)) pa_nil))))
      (pss_cons (ps_set (i := 2) sc__law_bent_weather.nd rfl (by first | exact Or.inl rfl | exact Or.inr rfl) (pe_ix (ix_listK (K := K) rfl) (pv 3) (pv 5) (fun _ _ => rfl)))
      (pss_cons (ps_set (i := 6) sc__law_bent_weather.nd rfl (by first | exact Or.inl rfl | exact Or.inr rfl) (pe_ix (ix_listK (K := K) rfl) (pv 3) (pe_ok (ok__law_draw T) (hr.mono (by first | decide | omega)) rfl pass0 (pa_cons (pv 0) (pa_cons (pe_callB (len_seqK (K := K) rfl) rfl (n_len T) (by decide +kernel) (pa_cons (pv 3) pa_nil)) pa_nil))) (fun _ _ => rfl)))
      (pss_cons (ps_if (pt_cmpR op_eq (pv 4) pe_int (nomark _)) (pss_one (ps_ret (pe_slice (sl_listK (K := K) rfl) (pv 3) po_none (po_some (pe_op op_sub (pe_callB (len_seqK (K := K) rfl) rfl (n_len T) (by decide +kernel) (pa_cons (pv 3) pa_nil)) pe_int))))) pss_nil)
      (pss_cons (ps_if (pt_cmpR op_eq (pv 4) pe_int (nomark _)) (pss_one (ps_ret (pe_op op_cat (pv 3) (pe_lst (pa_cons (pe_lst pa_nil) pa_nil))))) pss_nil)
      (pss_cons (ps_if (PW.pt (pw_or (pt_cmpR op_eq (pv 4) pe_int (nomark _)) (pw_or1 (pt_cmpR op_eq (pe_callB (len_seqK (K := K) rfl) rfl (n_len T) (by decide +kernel) (pa_cons (pv 2) pa_nil)) pe_int (nomark _))))) (pss_one (ps_expr (pe_bm PySem.F.plainAttrs_list PySem.F.slot_list_append PySem.F.type_list_append mt_append (pv 6) (pa_cons (pe_tup (pa_cons (pe_op op_add pe_int (pe_ok (ok__law_draw T) (hr.mono (by first | decide | omega)) rfl pass0 (pa_cons (pv 0) (pa_cons pe_int pa_nil)))) (pa_cons pe_int pa_nil))) pa_nil)))) (pss_one (ps_if (pt_cmpR op_eq (pv 4) pe_int (nomark _)) (pss_cons (ps_set (i := 7) sc__law_bent_weather.nd rfl (by first | exact Or.inl rfl | exact Or.inr rfl) (pe_bm PySem.F.plainAttrs_list PySem.F.slot_list_pop PySem.F.type_list_pop mt_popAt (pv 2) (pa_cons (pe_ok (ok__law_draw T) (hr.mono (by first | decide | omega)) rfl pass0 (pa_cons (pv 0) (pa_cons (pe_callB (len_seqK (K := K) rfl) rfl (n_len T) (by decide +kernel) (pa_cons (pv 2) pa_nil)) pa_nil))) pa_nil)))
      (pss_one (ps_expr (pe_bm PySem.F.plainAttrs_list PySem.F.slot_list_append PySem.F.type_list_append mt_append (pv 6) (pa_cons (pv 7) pa_nil))))) (pss_one (ps_if (pt_cmpR op_eq (pv 4) pe_int (nomark _)) (pss_one (ps_expr (pe_bm PySem.F.plainAttrs_list PySem.F.slot_list_pop PySem.F.type_list_pop mt_popAt (pv 2) (pa_cons (pe_ok (ok__law_draw T) (hr.mono (by first | decide | omega)) rfl pass0 (pa_cons (pv 0) (pa_cons (pe_callB (len_seqK (K := K) rfl) rfl (n_len T) (by decide +kernel) (pa_cons (pv 2) pa_nil)) pa_nil))) pa_nil)))) (pss_one (ps_if (pt_cmpR op_eq (pv 4) pe_int (nomark _)) (pss_cons (ps_set (i := 8) sc__law_bent_weather.nd rfl (by first | exact Or.inl rfl | exact Or.inr rfl) (pe_ok (ok__law_draw T) (hr.mono (by first | decide | omega)) rfl pass0 (pa_cons (pv 0) (pa_cons (pe_callB (len_seqK (K := K) rfl) rfl (n_len T) (by decide +kernel) (pa_cons (pv 2) pa_nil)) pa_nil))))
      (pss_one (ps_asg (pe_tup (pa_cons (pe_ix (ix_seqK (K := K) rfl) (pe_ix (ix_listK (K := K) rfl) (pv 2) (pv 8) (fun _ _ => rfl)) pe_int (fun _ _ => rfl)) (pa_cons (pe_op op_mul pe_int (pe_ok (ok__law_draw T) (hr.mono (by first | decide | omega)) rfl pass0 (pa_cons (pv 0) (pa_cons pe_int pa_nil)))) pa_nil))) (pg_sub (pv 2) (pv 8) set_list)))) (pss_one (ps_asg (pe_lc (own := [("at", 9)]) rfl sc__law_bent_weather.nd (pi_range1 rfl (n_range T) (pa_cons (pe_callB (len_seqK (K := K) rfl) rfl (n_len T) (by decide +kernel) (pa_cons (pv 2) pa_nil)) pa_nil)) (blkOk_by (N := ["stock", "weather", "report", "bent", "kind", "day", "other", "fall", "place", "at"]) (sc := defScope s__law_bent_weather) (by decide +kernel)) (fun _ _ _ _ _ => (pg_name (i := 9) sc__law_bent_weather.nd rfl (by first | exact Or.inl rfl | exact Or.inr rfl))) (fun _ _ _ _ _ => pts_nil) (fun _ _ _ _ _ => (pe_ix (ix_listK (K := K) rfl) (pv 2) (pe_op op_sub (pe_op op_sub (pe_callB (len_seqK (K := K) rfl) rfl (n_len T) (by decide +kernel) (pa_cons (pv 2) pa_nil)) pe_int) (pv 9)) (fun _ _ => rfl)))) (pg_sub (pv 3) (pv 5) set_list))))))))))
      (pss_one (ps_ret (pv 3))))))))))), ?_⟩
    have hyl : ys.length = W.length := Paired.length w2
    refine ⟨_, rfl, a, rfl, ⟨_, SqL.of w1⟩, fun D hD => lc_acc (K := K) (a := a) (xs := ys) hD (SqL.of w1) (by omega) (fun j acc H2 => ∃ rs : List Addr, acc = rs.map V.ref ∧ rs.Nodup ∧ D ∉ rs ∧ (∀ r ∈ rs, H r = none) ∧ Paired (RepA H2) rs (W.take j)) (fun _ _ => ⟨([] : List Addr), rfl, List.nodup_nil, (by simp), (fun (r : Addr) (h : r ∈ ([] : List Addr)) => (by simp at h)), Paired.nil⟩) ?_ ?_⟩
    · rintro j x acc H2 N N0 hx s2 hacc ⟨rs, rfl, hnd, hDn, hr0, hp⟩ hN hN0
      obtain ⟨rep, hrep, l, zs, rfl, r1, r2⟩ := paired_get w2 hx
      have r1' := s2 _ _ r1
      refine gnE ⟨rfl, ?_⟩
      refine ⟨_, rfl, l, zs, rfl, .inl (SqL.of r1'), fun r hr_ => ?_⟩
      obtain ⟨s3, g3⟩ := new2 (.lst zs) hr_
      have hrD : r ≠ D := fun z => by rw [z, hacc] at hr_; cases hr_
      refine hN _ _ s3 fun H5 b5 _ => ⟨rs ++ [r], by rw [List.map_append]; rfl, ?_, ?_, ?_, ?_⟩
      · rw [List.nodup_append]
        refine ⟨hnd, by simp, fun x hx y hy => ?_⟩
        rw [List.mem_singleton.mp hy]
        intro z
        obtain ⟨a, ha⟩ := List.getElem?_of_mem hx
        obtain ⟨_, _, ys, q, _⟩ := paired_get hp ha
        rw [z, hr_] at q
        cases q
      · intro z
        rcases List.mem_append.mp z with z | z
        · exact hDn z
        · exact hrD (List.mem_singleton.mp z).symm
      · intro q hq
        rcases List.mem_append.mp hq with z | z
        · exact hr0 q z
        · rw [List.mem_singleton.mp z]
          exact none_of s2 hr_
      · rw [take_get hrep]
        have hacc3 := s3 _ _ hacc
        refine Paired.append ?_ (.cons ⟨zs, b5 _ _ g3 hrD, Paired.mapP r2 fun _ _ z => ((z.same s2).same s3).but hacc3 b5⟩ .nil)
        have : ∀ {l' : List Addr} {m' : List (List (Int × Int))}, D ∉ l' → Paired (RepA H2) l' m' → Paired (RepA H5) l' m' := fun {l' m'} hl hp => by
          induction hp with
          | nil => exact .nil
          | cons h _ ih =>
            rw [List.mem_cons, not_or] at hl
            obtain ⟨ys, q1, q2⟩ := h
            exact .cons ⟨ys, b5 _ _ (s3 _ _ q1) fun z => hl.1 z.symm, Paired.mapP q2 fun _ _ z => (z.same s3).but hacc3 b5⟩ (ih hl.2)
        exact this hDn hp
    · rintro acc H2 s2 hacc hal ⟨rs, rfl, hnd, hDn, hr0, hp⟩
      rw [hyl, List.take_length] at hp
      have hG2 : WG H H2 D rs W := ⟨hacc, hnd, hDn, hr0, hp⟩
      have st2 := hst.same s2
      have hrl : rs.length = W.length := Paired.length hp
      have hml : (rs.map V.ref).length = W.length := by rw [List.length_map, hrl]
      have cc2 : But sa H H2 := But.of s2
      refine ⟨_, rfl, sa, 7, rfl, by decide, by decide, st2, fun kd a1 b1 c1 k0 k1 => ?_⟩
      obtain ⟨b3x, st3⟩ := drew (H := H2) (sa := sa) a1 b1 c1
      generalize upd H2 sa (stk a1 b1 c1) = H3 at b3x st3 ⊢
      have hG3 := hG2.but st2 b3x
      refine ⟨_, rfl, _, rfl, _, _, rfl, .inl (SqL.of hG3.1), sa, _, rfl, by omega, by omega, st3, fun dy a2 b2 c2 d0 d1 => ?_⟩
      obtain ⟨b4, st4⟩ := drew (H := H3) (sa := sa) a2 b2 c2
      generalize upd H3 sa (stk a2 b2 c2) = H4 at b4 st4 ⊢
      have hG4 := hG3.but st3 b4
      obtain ⟨n, rfl⟩ : ∃ n : Nat, dy = (n : Int) := ⟨dy.toNat, by omega⟩
      obtain ⟨ra, hra⟩ : ∃ r, rs[n]? = some r := ⟨rs[n]'(by omega), List.getElem?_eq_getElem _⟩
      obtain ⟨repa, hwa⟩ : ∃ rep, W[n]? = some rep := ⟨W[n]'(by omega), List.getElem?_eq_getElem _⟩
      refine ⟨_, rfl, _, rfl, D, _, _, .ref ra, rfl, rfl, SqL.of hG4.1, at_of rfl (by rw [List.getElem?_map, hra]; rfl), ?_⟩
      refine ⟨_, rfl, _, rfl, _, rfl, _, _, rfl, .inl (SqL.of hG4.1), sa, _, rfl, by omega, by omega, st4, fun ot a3 b3 c3 o0 o1 => ?_⟩
      obtain ⟨b5, st5⟩ := drew (H := H4) (sa := sa) a3 b3 c3
      generalize upd H4 sa (stk a3 b3 c3) = H5 at b5 st5 ⊢
      have hG5 := hG4.but st4 b5
      obtain ⟨m, rfl⟩ : ∃ n : Nat, ot = (n : Int) := ⟨ot.toNat, by omega⟩
      obtain ⟨rb, hrb⟩ : ∃ r, rs[m]? = some r := ⟨rs[m]'(by omega), List.getElem?_eq_getElem _⟩
      obtain ⟨repb, hwb⟩ : ∃ rep, W[m]? = some rep := ⟨W[m]'(by omega), List.getElem?_eq_getElem _⟩
      refine ⟨D, _, _, .ref rb, rfl, rfl, SqL.of hG5.1, at_of rfl (by rw [List.getElem?_map, hrb]; rfl), ?_⟩
      have cc : But sa H H5 := ((cc2.trans b3x).trans b4).trans b5
      have la := total_get hwa
      have lb := total_get hwb
      clear b4 b5 st4 st3 st2 hG2 hG3 hG4 hacc
      -- kind 0
      refine ⟨_, rfl, rfl, _, rfl, ite2 (fun c => ?_) (fun q0 => ?_)⟩
      · refine ⟨_, rfl, _, rfl, _, _, rfl, .inl (SqL.of hG5.1), _, _, rfl, rfl, _, rfl, D, _, rfl, SqL.of hG5.1, fun p hp' => ?_⟩
        rw [cut_take (k := W.length - 1) _ (by omega)]
        obtain ⟨s6, g6⟩ := new2 (.lst ((rs.map V.ref).take (W.length - 1))) hp'
        obtain ⟨xs, z1, z2⟩ := hG5.wea
        have z1' : xs = rs.map V.ref := by
          have := z1.symm.trans hG5.1
          exact HO.lst.inj (Option.some.inj this)
        subst z1'
        refine k p (W.take (W.length - 1)) _ (cc.trans (But.of s6)) (st5.same s6) ⟨_, g6, paired_take _ (Paired.mapP z2 fun _ _ z => z.same s6)⟩ ?_ ?_
        · rw [List.length_take]; omega
        · exact Nat.le_trans (total_le W _) (by omega)
      -- kind 1
      refine ⟨_, rfl, rfl, _, rfl, ite2 (fun c => ?_) (fun q1 => ?_)⟩
      · refine ⟨_, rfl, (by show 0 ≤ sizeLine; decide), fun e he => ⟨(by show 1 ≤ sizeLine; decide), fun u hu => ?_⟩⟩
        obtain ⟨s6, g6⟩ := new2 (.lst []) he
        obtain ⟨s7, g7⟩ := new2 (.lst [V.ref e]) hu
        have s67 := s6.trans s7
        refine ⟨D, u, _, _, rfl, rfl, s67 _ _ hG5.1, g7, line_of (by show (rs.map V.ref).length + 1 ≤ _; omega), fun v hv => ?_⟩
        obtain ⟨s8, g8⟩ := new2 (.lst (rs.map V.ref ++ [V.ref e])) hv
        obtain ⟨xs, z1, z2⟩ := hG5.wea
        have z1' : xs = rs.map V.ref := HO.lst.inj (Option.some.inj (z1.symm.trans hG5.1))
        subst z1'
        refine k v (W ++ [[]]) _ (cc.trans (But.of (s67.trans s8))) (st5.same (s67.trans s8)) ⟨_, g8, Paired.append (Paired.mapP z2 fun _ _ z => z.same (s67.trans s8)) (.cons ⟨e, [], rfl, s8 _ _ (s7 _ _ g6), .nil⟩ .nil)⟩ ?_ ?_
        · rw [List.length_append]; show W.length + 1 ≤ _; omega
        · rw [total_app]; show total W + 0 ≤ _; omega
      obtain ⟨xa, ga, pa⟩ := hG5.rep hra hwa
      obtain ⟨xb, gb, pb⟩ := hG5.rep hrb hwb
      have lxa := Paired.length pa
      have lxb := Paired.length pb
      have nra := hG5.2.2.2.1 ra (List.mem_of_getElem? hra)
      have nrb := hG5.2.2.2.1 rb (List.mem_of_getElem? hrb)
      -- kind 2
      refine EvT.ifs (b := decide (kd = 2) || decide ((xa.length : Int) = 0)) (EvT.or (EvT.test (Ev.eq (Ev.var rfl) Ev.c)) fun _ => EvT.test (Ev.eq (Ev.lenL (Ev.var rfl) ga) Ev.c)) fun H6 s6 => ?_
      have hG6 := hG5.same s6
      have st6 := st5.same s6
      have c6 := cc.trans (But.of s6)
      have ga6 := s6 _ _ ga
      have gb6 := s6 _ _ gb
      clear hG5 st5 cc
      refine ite2 (fun c => ?_) (fun q2 => ?_)
      · refine ⟨_, rfl, .inl ⟨rfl, _, SqL.of gb6⟩, _, rfl, sa, 5, rfl, by decide, by decide, st6, fun z a4 b4 c4 z0 z1 => ⟨_, _, rfl, rfl, (by show 2 ≤ sizeLine; decide), fun t ht => ?_⟩⟩
        obtain ⟨b7, st7⟩ := drew (H := H6) (sa := sa) a4 b4 c4
        generalize upd H6 sa (stk a4 b4 c4) = H7 at b7 st7 ht ⊢
        obtain ⟨s8, g8⟩ := new2 (.tup [.int (1 + z), .int 1]) ht
        have hG8 := (hG6.but st6 b7).same s8
        obtain ⟨xs, e1, e2⟩ := hG8.rep hrb hwb
        have lx := Paired.length e2
        refine ⟨rb, xs, _, rfl, rfl, e1, line_lt (by omega), ?_⟩
        have hG9 := hG8.edit (ys := xs ++ [V.ref t]) hrb e1 (rep := repb ++ [(1 + z, 1)]) (Paired.snoc e2 ⟨t, rfl, g8⟩)
        refine ⟨_, rfl, k D _ _ ((c6.trans (b7.trans (But.of s8))).mut nrb) ((st7.same s8).but (rep_ne (st7.same s8) e1 e2).symm) hG9.wea (by rw [List.length_set]; omega) ?_⟩
        have := total_put (rep' := repb ++ [(1 + z, 1)]) hwb
        rw [List.length_append] at this
        have : (List.length [((1 : Int) + z, (1 : Int))]) = 1 := rfl
        omega
      have hxa : xa.length ≠ 0 := fun z => by
        rw [z] at q2
        simp at q2
      -- kind 3
      refine ⟨_, rfl, rfl, _, rfl, ite2 (fun c => ?_) (fun q3 => ?_)⟩
      · refine ⟨_, rfl, .inl ⟨rfl, _, SqL.of ga6⟩, _, rfl, _, rfl, _, _, rfl, .inl (SqL.of ga6), sa, _, rfl, by omega, by omega, st6, fun z a4 b4 c4 z0 z1 => ?_⟩
        obtain ⟨b7, st7⟩ := drew (H := H6) (sa := sa) a4 b4 c4
        generalize upd H6 sa (stk a4 b4 c4) = H7 at b7 st7 ⊢
        have hG7 := hG6.but st6 b7
        obtain ⟨q, rfl⟩ : ∃ n : Nat, z = (n : Int) := ⟨z.toNat, by omega⟩
        obtain ⟨xs, e1, e2⟩ := hG7.rep hra hwa
        have lx := Paired.length e2
        obtain ⟨y, hy⟩ : ∃ y, xs[q]? = some y := ⟨xs[q]'(by omega), List.getElem?_eq_getElem _⟩
        obtain ⟨cy, hcy, py⟩ := paired_get e2 hy
        refine ⟨ra, xs, _, q, y, rfl, rfl, e1, by omega, by omega, (seqIndex_of (by omega) (by omega)).trans (by rfl), hy, ?_⟩
        have hG8 := hG7.edit (ys := xs.eraseIdx q) hra e1 (paired_erase q e2)
        have st8 := st7.but (o := .lst (xs.eraseIdx q)) (rep_ne st7 e1 e2).symm
        have py8 := py.mut (o := .lst (xs.eraseIdx q)) e1
        have c8 := (c6.trans b7).mut (o := .lst (xs.eraseIdx q)) nra
        generalize upd H7 ra (.lst (xs.eraseIdx q)) = H8 at hG8 st8 py8 c8 ⊢
        obtain ⟨repc, hwc⟩ : ∃ rep, (W.set n (repa.eraseIdx q))[m]? = some rep := ⟨_, List.getElem?_eq_getElem (by rw [List.length_set]; omega)⟩
        obtain ⟨xc, f1, f2⟩ := hG8.rep hrb hwc
        have lxc := Paired.length f2
        have t1 := total_put (rep' := repa.eraseIdx q) hwa
        have t1' : (repa.eraseIdx q).length + 1 = repa.length := by
          have := List.length_eraseIdx_of_lt (l := repa) (i := q) (by omega)
          omega
        have lc := total_get hwc
        refine ⟨_, rfl, .inl ⟨rfl, _, SqL.of f1⟩, _, rfl, rb, xc, _, rfl, rfl, f1, line_lt (by omega), ?_⟩
        have hG9 := hG8.edit (ys := xc ++ [y]) hrb f1 (Paired.snoc f2 py8)
        refine ⟨_, rfl, k D _ _ (c8.mut nrb) (st8.but (rep_ne st8 f1 f2).symm) hG9.wea (by rw [List.length_set, List.length_set]; omega) ?_⟩
        have := total_put (rep' := repc ++ [cy]) hwc
        rw [List.length_append] at this
        have : (List.length [cy]) = 1 := rfl
        omega
      -- kind 4
      refine ⟨_, rfl, rfl, _, rfl, ite2 (fun c => ?_) (fun q4 => ?_)⟩
      · refine ⟨_, rfl, .inl ⟨rfl, _, SqL.of ga6⟩, _, rfl, _, rfl, _, _, rfl, .inl (SqL.of ga6), sa, _, rfl, by omega, by omega, st6, fun z a4 b4 c4 z0 z1 => ?_⟩
        obtain ⟨b7, st7⟩ := drew (H := H6) (sa := sa) a4 b4 c4
        generalize upd H6 sa (stk a4 b4 c4) = H7 at b7 st7 ⊢
        have hG7 := hG6.but st6 b7
        obtain ⟨q, rfl⟩ : ∃ n : Nat, z = (n : Int) := ⟨z.toNat, by omega⟩
        obtain ⟨xs, e1, e2⟩ := hG7.rep hra hwa
        have lx := Paired.length e2
        obtain ⟨y, hy⟩ : ∃ y, xs[q]? = some y := ⟨xs[q]'(by omega), List.getElem?_eq_getElem _⟩
        refine ⟨ra, xs, _, q, y, rfl, rfl, e1, by omega, by omega, (seqIndex_of (by omega) (by omega)).trans (by rfl), hy, ?_⟩
        have hG8 := hG7.edit (ys := xs.eraseIdx q) hra e1 (paired_erase q e2)
        have st8 := st7.but (o := .lst (xs.eraseIdx q)) (rep_ne st7 e1 e2).symm
        have c8 := (c6.trans b7).mut (o := .lst (xs.eraseIdx q)) nra
        have t1 := total_put (rep' := repa.eraseIdx q) hwa
        have t1' : (repa.eraseIdx q).length + 1 = repa.length := by
          have := List.length_eraseIdx_of_lt (l := repa) (i := q) (by omega)
          omega
        exact ⟨_, rfl, k D _ _ c8 st8 hG8.wea (by rw [List.length_set]; omega) (by omega)⟩
      -- kind 5
      refine ⟨_, rfl, rfl, _, rfl, ite2 (fun c => ?_) (fun q5 => ?_)⟩
      · refine ⟨_, rfl, _, rfl, _, _, rfl, .inl (SqL.of ga6), sa, _, rfl, by omega, by omega, st6, fun z a4 b4 c4 z0 z1 => ?_⟩
        obtain ⟨b7, st7⟩ := drew (H := H6) (sa := sa) a4 b4 c4
        generalize upd H6 sa (stk a4 b4 c4) = H7 at b7 st7 ⊢
        have hG7 := hG6.but st6 b7
        obtain ⟨q, rfl⟩ : ∃ n : Nat, z = (n : Int) := ⟨z.toNat, by omega⟩
        obtain ⟨xs, e1, e2⟩ := hG7.rep hra hwa
        have lx := Paired.length e2
        obtain ⟨y, hy⟩ : ∃ y, xs[q]? = some y := ⟨xs[q]'(by omega), List.getElem?_eq_getElem _⟩
        obtain ⟨cy, hcy, py⟩ := paired_get e2 hy
        refine ⟨_, rfl, _, rfl, ra, xs, _, y, rfl, rfl, SqL.of e1, at_of rfl hy, py.i0 ⟨_, rfl, sa, 2, rfl, by decide, by decide, st7, fun v a5 b5 c5 v0 v1 => ⟨_, _, rfl, rfl, .inl (by decide), (by show 2 ≤ sizeLine; decide), fun t ht => ?_⟩⟩⟩
        obtain ⟨b8, st8⟩ := drew (H := H7) (sa := sa) a5 b5 c5
        generalize upd H7 sa (stk a5 b5 c5) = H8 at b8 st8 ht ⊢
        obtain ⟨s9, g9⟩ := new2 (.tup [.int cy.1, .int (2 * v)]) ht
        have hG9 := (hG7.but st7 b8).same s9
        obtain ⟨xs', f1, f2⟩ := hG9.rep hra hwa
        have lx' := Paired.length f2
        refine ⟨_, rfl, _, rfl, ra, xs', _, q, rfl, rfl, f1, ix_nat (by omega), ?_⟩
        have hG10 := hG9.edit (ys := xs'.set q (.ref t)) hra f1 (paired_setv (y := (cy.1, 2 * v)) ⟨t, rfl, g9⟩ q f2)
        have st9 := st8.same s9
        have t1 := total_put (rep' := repa.set q (cy.1, 2 * v)) hwa
        rw [List.length_set] at t1
        exact ⟨_, rfl, k D _ _ ((c6.trans (b7.trans (b8.trans (But.of s9)))).mut nra) (st9.but (rep_ne st9 f1 f2).symm) hG10.wea (by rw [List.length_set]; omega) (by omega)⟩
      -- the last kind
      · refine ⟨_, rfl, _, _, rfl, .inl (SqL.of ga6), _, rfl, by omega, by omega, fun R hR => lc_upto (lo := 0) (L := xa.length) (by omega) hR (by omega) (fun j acc H' => ∃ rep, Paired (PairT H') acc rep ∧ rep.length = j) (fun _ _ => ⟨[], .nil, rfl⟩) ?_ ?_⟩
        · rintro j acc H7 N N0 hj s7 hacc ⟨rep, hp', hl'⟩ hN hN0
          obtain ⟨y, hy⟩ : ∃ y, xa[xa.length - 1 - j]? = some y := ⟨xa[xa.length - 1 - j]'(by omega), List.getElem?_eq_getElem _⟩
          obtain ⟨cy, hcy, py⟩ := paired_get pa hy
          refine gnE ⟨rfl, ?_⟩
          refine ⟨_, rfl, _, rfl, _, _, rfl, .inl (SqL.of (s7 _ _ ga6)), _, _, rfl, rfl, _, rfl, _, _, rfl, rfl, ra, xa, _, y, rfl, rfl, SqL.of (s7 _ _ ga6), at_of (by omega) hy, ?_⟩
          refine hN _ _ (Same.refl _) fun H8 b8 _ => ⟨rep ++ [cy], Paired.snoc (Paired.mapP hp' fun _ _ z => z.but hacc b8) (((py.same s6).same s7).but hacc b8), by rw [List.length_append, hl']; rfl⟩
        · rintro acc H7 s7 hacc hal' ⟨rep, hp', hl'⟩
          have hG7 := hG6.same s7
          refine ⟨_, rfl, _, rfl, D, _, _, n, rfl, rfl, hG7.1, ix_nat (by omega), ?_⟩
          obtain ⟨xs, z1, z2⟩ := hG7.wea
          have z1' : xs = rs.map V.ref := HO.lst.inj (Option.some.inj (z1.symm.trans hG7.1))
          subst z1'
          have RD : R ≠ D := fun z => by rw [z, hG6.1] at hR; cases hR
          have st7 := st6.same s7
          have hmD : ∀ {y : V} {rp : List (Int × Int)}, y ≠ .ref D → RepT H7 y rp → RepT (upd H7 D (.lst ((rs.map V.ref).set n (.ref R)))) y rp := fun {y rp} hy ⟨l, xs, e, p1, p2⟩ => ⟨l, xs, e, by rw [upd_ne fun z => hy (by rw [e, z])]; exact p1, Paired.mapP p2 fun _ _ z => z.mut z1⟩
          have hall : Paired (RepT (upd H7 D (.lst ((rs.map V.ref).set n (.ref R))))) (rs.map V.ref) W := by
            have : ∀ {l' : List Addr} {m' : List (List (Int × Int))}, D ∉ l' → Paired (RepT H7) (l'.map V.ref) m' → Paired (RepT (upd H7 D (.lst ((rs.map V.ref).set n (.ref R))))) (l'.map V.ref) m' := fun {l'} => by
              induction l' with
              | nil => intro m' _ hp; cases hp; exact .nil
              | cons x l' ih =>
                intro m' hl hp
                rw [List.mem_cons, not_or] at hl
                cases hp with
                | cons h t => exact .cons (hmD (fun z => hl.1 (by cases z; rfl)) h) (ih hl.2 t)
            exact this hG7.2.2.1 z2
          have t1 := total_put (rep' := rep) hwa
          refine ⟨_, rfl, k D (W.set n rep) _ ((c6.trans (But.of s7)).mut hD) (st7.but (refs_ne st7 hG7.1).symm) ⟨_, upd_same, paired_setv (hmD (fun z => RD (by cases z; rfl)) ⟨R, acc, rfl, hacc, hp'⟩) n hall⟩ (by rw [List.length_set]; omega) (by omega)⟩
end
end K26
end
section
set_option maxRecDepth 100000
set_option maxHeartbeats 4000000
namespace K26
open PySem PySem.Spec PyProof.Rows L2
/-! ### weathers as data -/
def dR (rep : List (Int × Int)) : PyData := .list (rep.map dP)
theorem dp_reps {K : PySem.W.Frag} {H : Hp} {xs : List V} {W : List (List (Int × Int))} (h : Paired (RepT H) xs W) : DpAll K H xs (W.map dR) := by
  induction h with
  | nil => exact .nil
  | cons a _ ih =>
    obtain ⟨l, ys, rfl, h1, h2⟩ := a
    exact .cons (dp_pairs h1 h2) ih
theorem dp_wea {K : PySem.W.Frag} {H : Hp} {p : Addr} {W : List (List (Int × Int))} (h : WeaT H p W) : Dp K H (.ref p) (.list (W.map dR)) := by
  obtain ⟨xs, h1, h2⟩ := h
  exact .lst (SqL.of h1) (dp_reps h2)
theorem lay_reps : ∀ W : List (List (Int × Int)), PyData.canLayAll0 (W.map dR) = true
  | [] => by rw [List.map_nil]; unfold PyData.canLayAll0; rfl
  | rep :: r => by
    rw [List.map_cons]
    unfold PyData.canLayAll0
    rw [lay_reps r]
    have : (dR rep).canLay0 = true := lay_pairs rep
    rw [this]
    rfl
theorem dep_reps : ∀ W : List (List (Int × Int)), PyData.depthAll (W.map dR) ≤ 3
  | [] => by rw [List.map_nil]; unfold PyData.depthAll; exact Nat.zero_le _
  | rep :: r => by
    rw [List.map_cons]
    unfold PyData.depthAll
    have h := dep_reps r
    have e : (dR rep).depth ≤ 3 := by
      have := dep_pairall rep
      unfold dR PyData.depth
      omega
    omega
theorem lay_wea (W : List (List (Int × Int))) : (PyData.list (W.map dR)).canLay0 = true := by
  unfold PyData.canLay0
  exact lay_reps W
theorem shaped_wea (W : List (List (Int × Int))) : SeqAt.shaped (PyData.list (W.map dR)) = true := by
  unfold SeqAt.shaped
  rw [lay_wea]
  have h := dep_reps W
  have e : (PyData.list (W.map dR)).depth ≤ 64 := by
    unfold PyData.depth
    omega
  rw [decide_eq_true e]
  rfl
theorem eq_wea {K : PySem.W.Frag} {H : Hp} {a b : Addr} {W : List (List (Int × Int))} {Q : VK} (h1 : WeaT H a W) (h2 : WeaT H b W) (q : Q (.bl true) H) : rEqD K (.ref a) (.ref b) H Q := by
  refine ⟨_, _, dp_wea h1, dp_wea h2, shaped_wea W, shaped_wea W, ?_⟩
  rw [SeqAt.eqv_refl _ (lay_wea W)]
  exact q
/-! ### deep copies of weathers -/
theorem WeaT.seqOf {H : Hp} {p : Addr} {W : List (List (Int × Int))} (h : WeaT H p W) (hW : W.length ≤ 100) (ht : total W ≤ 2000) : SeqOf true (SeqOf true PairT) H (.ref p) W := by
  obtain ⟨xs, h1, h2⟩ := h
  refine ⟨p, xs, rfl, h1, ?_, by omega⟩
  have : ∀ {xs : List V} {W : List (List (Int × Int))}, total W ≤ 2000 → Paired (RepT H) xs W → Paired (SeqOf true PairT H) xs W := by
    intro xs W ht h
    induction h with
    | nil => exact .nil
    | cons a _ ih =>
      rw [total_cons] at ht
      obtain ⟨l, ys, rfl, h1, h2⟩ := a
      exact .cons ⟨l, ys, rfl, h1, h2, by omega⟩ (ih (by omega))
  exact this ht h2
theorem wea_of {H : Hp} {v : V} {W : List (List (Int × Int))} (h : SeqOf true (SeqOf true PairT) H v W) : ∃ p, v = .ref p ∧ WeaT H p W := by
  obtain ⟨p, xs, rfl, h1, h2, _⟩ := h
  exact ⟨p, rfl, xs, h1, Paired.mapP h2 fun _ _ ⟨l, ys, e, g1, g2, _⟩ => ⟨l, ys, e, g1, g2⟩⟩
/-! ### what is told, compared -/
theorem mt_pair {H : Hp} {x y : V} {c : Int × Int} (h1 : PairT H x c) (h2 : PairT H y c) : Mt 1 H x y := by
  obtain ⟨t, rfl, ht⟩ := h1
  obtain ⟨u, rfl, hu⟩ := h2
  refine .inr ⟨t, u, _, _, rfl, rfl, .inr ⟨ht, hu⟩, rfl, (by show 2 ≤ 1000; decide), fun i x y hx hy => ?_⟩
  rw [hx] at hy
  cases hy
  rcases i with _ | _ | i
  · cases hx; exact .inl ⟨_, rfl, rfl⟩
  · cases hx; exact .inl ⟨_, rfl, rfl⟩
  · cases hx
theorem mt_pairs {H : Hp} {a b : Addr} {xs ys : List V} {ws : List (Int × Int)} (hz : ws.length ≤ 1000) (ha : H a = some (.lst xs)) (hb : H b = some (.lst ys)) (h1 : Paired (PairT H) xs ws) (h2 : Paired (PairT H) ys ws) : Mt 2 H (.ref a) (.ref b) := by
  refine .inr ⟨a, b, _, _, rfl, rfl, .inl ⟨ha, hb⟩, by rw [Paired.length h1, Paired.length h2], by rw [Paired.length h2]; exact hz, fun i x y hx hy => ?_⟩
  obtain ⟨c, hc, r1⟩ := paired_get h1 hx
  obtain ⟨d, hd, r2⟩ := paired_get h2 hy
  rw [hc] at hd
  cases hd
  exact mt_pair r1 r2
theorem mt_two {k : Nat} {H : Hp} {r d : Addr} {z : Str} {x y : V} (hr : H r = some (.tup [.str z, x])) (hd : H d = some (.tup [.str z, y])) (h : Mt k H x y) : Mt (k + 1) H (.ref r) (.ref d) := by
  refine .inr ⟨r, d, _, _, rfl, rfl, .inr ⟨hr, hd⟩, rfl, (by show 2 ≤ 1000; decide), fun i x y hx hy => ?_⟩
  rcases i with _ | _ | i
  · cases hx
    cases hy
    cases k with
    | zero => exact .inr ⟨_, rfl, rfl⟩
    | succ k => exact .inl (.inr ⟨_, rfl, rfl⟩)
  · cases hx
    cases hy
    exact h
  · cases hx
theorem mt_one {k : Nat} {H : Hp} {r d : Addr} {x y : V} (hr : H r = some (.lst [x])) (hd : H d = some (.lst [y])) (h : Mt k H x y) : Mt (k + 1) H (.ref r) (.ref d) := by
  refine .inr ⟨r, d, _, _, rfl, rfl, .inl ⟨hr, hd⟩, rfl, (by show 1 ≤ 1000; decide), fun i x y hx hy => ?_⟩
  rcases i with _ | i
  · cases hx
    cases hy
    exact h
  · cases hx
theorem Told.mt {K : PySem.W.Frag} {H : Hp} {r d : Addr} {L : List (Int × Int)} (hL : L.length ≤ 1000) (h1 : Told K H r L) (h2 : Told K H d L) : Mt 3 H (.ref r) (.ref d) := by
  obtain ⟨l, ys, a1, a2, a3⟩ := h1
  obtain ⟨m, zs, b1, b2, b3⟩ := h2
  exact mt_two a1 b1 (mt_pairs hL a2 b2 a3 b3)
theorem Rsd.mt {H : Hp} {r d : Addr} {z : Str} {n : Int} (h1 : Rsd H r z n) (h2 : Rsd H d z n) : Mt 3 H (.ref r) (.ref d) := by
  obtain ⟨l, t, a1, a2, a3⟩ := h1
  obtain ⟨m, u, b1, b2, b3⟩ := h2
  exact mt_two a1 b1 (mt_one a2 b2 (mt_two (k := 0) a3 b3 (.inl ⟨n, rfl, rfl⟩)))
theorem wrong_or {rs : List Q4} {T : Nat} {W : List (List (Int × Int))} : wrongOf rs T W = -1 ∨ 0 ≤ wrongOf rs T W := by
  have := firstBad_nn rs W (k := 1) (g := []) (by omega)
  unfold wrongOf
  split
  · split
    · exact .inl rfl
    · exact .inr this
  · exact .inr (by omega)
theorem right_len {rs : List Q4} {T : Nat} {W : List (List (Int × Int))} (h : wrongOf rs T W = -1) : W.length = T ∧ firstBad rs 1 [] W = 0 := by
  have := firstBad_nn rs W (k := 1) (g := []) (by omega)
  unfold wrongOf at h
  split at h
  · split at h
    · exact ⟨by assumption, by assumption⟩
    · omega
  · omega
theorem tightL_le {M : Nat → Nat → Int} {F : Nat → Int} {T : Nat} (hT : T ≤ 24) : (tightL M F T).length ≤ 1000 := by
  have := List.length_filter_le (tgB M F) (strL T)
  have := strL_len T hT
  unfold tightL
  omega
section
variable {P : Program} {w : World} {K : PySem.W.Frag} {mg : Str → Option Value} {base : Heap}
def spTightR (K : PySem.W.Frag) : Sp := fun vs H Q _ => ∃ (T : Nat) (p l a : Addr) (xs : List V) (ws : List (Int × Int)) (W : List (List (Int × Int))), vs = [.ref p, .int T, .ref l, .ref a] ∧ AlmAt K H p T (ws.map canR) ∧ H l = some (.lst xs) ∧ Paired (PairT H) xs ws ∧ WeaT H a W ∧ T ≤ 24 ∧ W.length ≤ 25 ∧ total W ≤ 41 ∧ ws.length ≤ 40 ∧ (∀ r ∈ ws.map canR, GoodR r) ∧ ∀ H', Same H H' → Q (.bl true) H'
theorem ok__law_tight_right (T : Txt w K mg) : Ok P w K mg base CX0 10 "_law_tight_right" ["almanac", "days", "spans", "weather"] (spTightR K) := by
  have ok__law_deep := fun (T : Txt w K mg) => ok_dp3 (P := P) (base := base) T
  have ok__law_matches := fun (T : Txt w K mg) => ok_mt3 (P := P) (base := base) T
  refine Ok.def0 (f__law_tight_right T) (fun _ _ _ _ _ _ us hl => match us, hl with | [_, _, _, _], _ => rfl) sc__law_tight_right (fun vs H Q E h => ?_) (fun f cdv A outer s H vs Q E hr h => ?_)
  · obtain ⟨TT, p, l, a, xs, ws, W, rfl, _⟩ := h
    rfl
  · obtain ⟨TT, p, l, a, xs, ws, W, rfl, hA, hl, hP, hWt, hT, hW, htot, hw, hg, k⟩ := h
    refine ⟨_, (pss_cons (ps_set (i := 4) sc__law_tight_right.nd rfl (by first | exact Or.inl rfl | exact Or.inr rfl) (pe_ok (ok__law_can_rains T) (hr.mono (by first | decide | omega)) rfl pass0 (pa_cons (pv 2) pa_nil)))
      (pss_cons (ps_set (i := 5) sc__law_tight_right.nd rfl (by first | exact Or.inl rfl | exact Or.inr rfl) (pe_ok (ok__law_first_wrong T) (hr.mono (by first | decide | omega)) rfl pass0 (pa_cons (pv 1) (pa_cons (pv 4) (pa_cons (pv 3) pa_nil)))))
      (pss_cons (ps_set (i := 6) sc__law_tight_right.nd rfl (by first | exact Or.inl rfl | exact Or.inr rfl) (pe_ok (ok__law_deep T) (hr.mono (by first | decide | omega)) rfl pass0 (pa_cons (pv 3) pa_nil)))
      (pss_cons (ps_if (pt_cmpR op_ge (pv 5) pe_int (nomark _)) (pss_one (ps_set (i := 7) sc__law_tight_right.nd rfl (by first | exact Or.inl rfl | exact Or.inr rfl) (pe_tup (pa_cons pe_str (pa_cons (pe_lst (pa_cons (pe_tup (pa_cons pe_str (pa_cons (pv 5) pa_nil))) pa_nil)) pa_nil))))) (pss_one (ps_set (i := 7) sc__law_tight_right.nd rfl (by first | exact Or.inl rfl | exact Or.inr rfl) (pe_tup (pa_cons pe_str (pa_cons (pe_lc (own := [("a", 8), ("b", 9)]) rfl sc__law_tight_right.nd (pi_listK (K := K) rfl (pe_ok (ok__law_stretches T) (hr.mono (by first | decide | omega)) rfl pass0 (pa_cons (pv 1) pa_nil))) (blkOk_by (N := ["almanac", "days", "spans", "weather", "rains", "wrong", "given", "due", "a", "b"]) (sc := defScope s__law_tight_right) (by decide +kernel)) (fun _ _ _ _ _ => (pg_tupK (K := K) (n := 2) rfl rfl (pgs_cons (pg_name (i := 8) sc__law_tight_right.nd rfl (by first | exact Or.inl rfl | exact Or.inr rfl)) (pgs_cons (pg_name (i := 9) sc__law_tight_right.nd rfl (by first | exact Or.inl rfl | exact Or.inr rfl)) pgs_nil)))) (fun _ _ _ _ _ => pts_one (pt_val (pe_ok (ok__law_is_tight T) (hr.mono (by first | decide | omega)) rfl pass0 (pa_cons (pv 2) (pa_cons (pv 3) (pa_cons (pv 8) (pa_cons (pv 9) pa_nil))))))) (fun _ _ _ _ _ => (pe_tup (pa_cons (pv 8) (pa_cons (pv 9) pa_nil))))) pa_nil))))))
      (pss_one (ps_ret (pe_and (pe_ok (ok__law_matches T) (hr.mono (by first | decide | omega)) rfl pass0 (pa_cons (pe_ok (ok__law_ask_tight T) (hr.mono (by first | decide | omega)) rfl pass0 (pa_cons (pv 0) (pa_cons (pv 6) pa_nil))) (pa_cons (pv 7) pa_nil))) (pe_one (pe_cmpR (eqDK (K := K) rfl hr.units) (pv 6) (pv 3) (nomark _)))))))))), ?_⟩
    refine ⟨_, rfl, l, xs, ws, rfl, hl, hP, hw, fun rl ys H1 hrl s1 g1 hQ => ?_⟩
    refine ⟨_, rfl, _, rfl, _, rfl, TT, rl, a, ys, ws.map canR, W, rfl, g1, hQ, hWt.same s1, hT, by omega, by rw [List.length_map]; exact hw, hg, by omega, fun H2 s2 => ?_⟩
    have e2 := s1.trans s2
    refine ⟨_, rfl, .ref a, W, rfl, (hWt.same e2).seqOf (by omega) (by omega), fun v' H3 s3 h3 hf => ?_⟩
    obtain ⟨gv, rfl, hGv⟩ := wea_of h3
    have e3 := e2.trans s3
    generalize hwr : wrongOf (ws.map canR) TT W = wrong at *
    have wor : wrong = -1 ∨ 0 ≤ wrong := by rw [← hwr]; exact wrong_or
    refine nxE (seq_via (fun σ' H' => ∃ d v8 v9, σ' = [some (.ref p), some (.int TT), some (.ref l), some (.ref a), some (.ref rl), some (.int wrong), some (.ref gv), some (.ref d), v8, v9] ∧ Same H3 H' ∧ (wrong ≠ -1 → Rsd H' d "BadWeather" wrong) ∧ (wrong = -1 → Told K H' d (tightL (tabR (ws.map canR)) (fellBy W) TT))) (fun U hU => ?_) ?_)
    · refine ⟨_, rfl, _, _, rfl, rfl, _, rfl, ite2 (fun c => ?_) (fun c => ?_)⟩
      · have c := of_decide_eq_true c
        refine ⟨_, rfl, (by show 2 ≤ sizeLine; decide), fun t ht => ⟨(by show 1 ≤ sizeLine; decide), fun m hm => ⟨(by show 2 ≤ sizeLine; decide), fun d hd => ?_⟩⟩⟩
        obtain ⟨s4, g4⟩ := new2 (.tup [.str "BadWeather", .int wrong]) ht
        obtain ⟨s5, g5⟩ := new2 (.lst [V.ref t]) hm
        obtain ⟨s6, g6⟩ := new2 (.tup [.str "raised", .ref m]) hd
        exact hU _ _ ⟨d, _, _, rfl, s4.trans (s5.trans s6), fun _ => ⟨m, t, g6, s6 _ _ g5, s6 _ _ (s5 _ _ g4)⟩, fun z => by omega⟩
      · have c : wrong = -1 := by
          rcases wor with h | h
          · exact h
          · exact absurd (decide_eq_true h) c
        subst c
        obtain ⟨hWl, hfb⟩ := right_len hwr
        have hdue := due_is hwr hg
        refine ⟨_, rfl, TT, rfl, hT, fun q zs H4 s4 hq0 g4 hS => ⟨q, rfl, ⟨_, SqL.of g4⟩, fun D hD => lc_acc (K := K) (a := q) (xs := zs) hD (SqL.of g4) ?_ (fun j acc H' => Paired (PairT H') acc (((strL TT).take j).filter fun c => isT ws W c.1.toNat c.2.toNat)) (fun _ _ => .nil) ?_ ?_⟩⟩
        · rw [Paired.length hS]
          have := strL_len TT hT
          omega
        · rintro j x acc H5 N N0 hx s5 hacc hI hN hN0
          obtain ⟨c, hc, hr⟩ := paired_get hS hx
          have hr := hr.same s5
          obtain ⟨a', b', h1, h2', rfl⟩ := strL_mem (List.mem_of_getElem? hc)
          have e5 := e3.trans (s4.trans s5)
          refine hr.un rfl ⟨rfl, ?_⟩
          have st := flt_take2 (p := fun c => isT ws W c.1.toNat c.2.toNat) hc _ rfl
          refine ⟨_, rfl, _, rfl, _, rfl, _, rfl, l, a, xs, ws, W, a', b', rfl, e5 _ _ hl, Paired.mapP hP fun _ _ z => z.same e5, hWt.same e5, by omega, by omega, by omega, fun rep hrep c hc => ?_, fun H6 s6 => ⟨_, rfl, ?_⟩⟩
          · obtain ⟨i, hi⟩ := List.getElem?_of_mem hrep
            have := (first_ok (Int.le_refl 1) hfb List.nodup_nil).2.1 i rep hi c hc
            rw [List.length_map] at this
            exact ⟨this.1, this.2.1⟩
          · have e45 := s4.trans (s5.trans s6)
            show (if isT ws W a' b' = true then _ else _)
            have st : ((strL TT).take (j + 1)).filter (fun c => isT ws W c.1.toNat c.2.toNat) = ((strL TT).take j).filter (fun c => isT ws W c.1.toNat c.2.toNat) ++ (if isT ws W a' b' then [((a' : Int), (b' : Int))] else []) := st
            cases q : isT ws W a' b' with
            | false =>
              rw [q] at st
              have st := st.trans (List.append_nil _)
              refine hN0 _ s6 ?_
              rw [st]
              exact Paired.mapP hI fun _ _ z => z.same s6
            | true =>
              rw [q] at st
              refine ⟨_, rfl, _, rfl, (by show 2 ≤ sizeLine; decide), fun t ht => ?_⟩
              obtain ⟨s7, g7⟩ := new2 (.tup [.int (a' : Int), .int (b' : Int)]) ht
              have hacc7 := s7 _ _ (s6 _ _ hacc)
              refine hN _ _ (s6.trans s7) fun H8 b8 _ => ?_
              rw [st]
              exact Paired.snoc (Paired.mapP hI fun _ _ z => ((z.same s6).same s7).but hacc7 b8) ((show PairT _ (.ref t) ((a' : Int), (b' : Int)) from ⟨t, rfl, g7⟩).but hacc7 b8)
        · rintro acc H5 s5 hacc _ hI
          rw [Paired.length hS, List.take_length, hdue] at hI
          refine ⟨(by show 2 ≤ sizeLine; decide), fun d hd => ?_⟩
          obtain ⟨s6, g6⟩ := new2 (.tup [.str "told", .ref D]) hd
          exact hU _ _ ⟨d, _, _, rfl, s4.trans (s5.trans s6), fun z => absurd rfl z, fun _ => ⟨D, acc, g6, s6 _ _ hacc, Paired.mapP hI fun _ _ z => z.same s6⟩⟩
    · rintro σ4 H4 ⟨d, v8, v9, rfl, s4, hdR, hdT⟩
      have e4 := e3.trans s4
      have fin : ∀ r H5, Same H4 H5 → Mt 3 H5 (.ref r) (.ref d) → (fun (v : V) (H5 : Hp) => ∃ (_ : v = .ref r), Mt 3 H5 (.ref r) (.ref d) ∧ Same H4 H5) (.ref r) H5 := fun r H5 s h => ⟨rfl, h, s⟩
      refine ⟨_, rfl, _, rfl, TT, p, gv, ws.map canR, W, rfl, hA.same e4, hGv.same s4, hT, by omega, by rw [List.length_map]; exact hw, hg, by omega, fun n hb => ?_, fun hone hn r H5 s5 hR => ?_, fun hone hn r H5 s5 hR => ?_⟩
      · obtain ⟨r, h1, h2, h3⟩ := hb
        exact absurd (OneCan.can r (List.mem_of_getElem? h1)) h3
      · rw [hwr] at hn hR
        refine ⟨_, rfl, .ref r, .ref d, rfl, Rsd.mt hR ?_, fun H6 s6 => ⟨_, rfl, iteT ?_⟩⟩
        · obtain ⟨m, t, z1, z2, z3⟩ := hdR hn
          exact ⟨m, t, s5 _ _ z1, s5 _ _ z2, s5 _ _ z3⟩
        · exact ⟨_, rfl, _, rfl, eq_wea (hGv.same (s4.trans (s5.trans s6))) (hWt.same (e4.trans (s5.trans s6))) (k _ (e4.trans (s5.trans s6)))⟩
      · rw [hwr] at hn
        refine ⟨_, rfl, .ref r, .ref d, rfl, Told.mt (tightL_le hT) hR ?_, fun H6 s6 => ⟨_, rfl, iteT ?_⟩⟩
        · obtain ⟨m, zs, z1, z2, z3⟩ := hdT hn
          exact ⟨m, zs, s5 _ _ z1, s5 _ _ z2, Paired.mapP z3 fun _ _ z => z.same s5⟩
        · exact ⟨_, rfl, _, rfl, eq_wea (hGv.same (s4.trans (s5.trans s6))) (hWt.same (e4.trans (s5.trans s6))) (k _ (e4.trans (s5.trans s6)))⟩
end
end K26
end
section
set_option maxRecDepth 100000
set_option maxHeartbeats 4000000
namespace K26
open PySem PySem.Spec PyProof.Rows L2
theorem _root_.L2.QuadT.but {H H' : Hp} {D : Addr} {ys : List V} (hD : H D = some (.lst ys)) (e : But D H H') {x : V} {c : Q4} (h : QuadT H x c) : QuadT H' x c := by
  obtain ⟨t, rfl, h⟩ := h
  exact ⟨t, rfl, e _ _ h fun z => by rw [z, hD] at h; cases h⟩
def CanC (c : Int × Int) : Prop := 0 ≤ c.1 ∧ c.1 ≤ c.2 ∧ c.2 ≤ 10 ^ 12 ∧ ¬ (c.1 = 1 ∧ c.2 = 1)
section
variable {P : Program} {w : World} {K : PySem.W.Frag} {mg : Str → Option Value} {base : Heap}
def spOther : Sp := fun vs H Q _ => ∃ (sa l : Addr) (xs : List V) (ws : List (Int × Int)), vs = [.ref sa, .ref l] ∧ Stk H sa ∧ H l = some (.lst xs) ∧ l ≠ sa ∧ Paired (PairT H) xs ws ∧ 1 ≤ ws.length ∧ ws.length ≤ 40 ∧ (∀ r ∈ ws.map canR, GoodR r) ∧
  ∀ t o ys rs (n : Nat) H', But sa H H' → Stk H' sa → H' t = some (.tup [.ref o, .int ((n : Int) + 1)]) → H' o = some (.lst ys) → Paired (QuadT H') ys rs → rs.length ≤ 40 → (∀ r ∈ rs, GoodR r) → BadCan rs n → Q (.ref t) H'
theorem ok__law_other_rains (T : Txt w K mg) : Ok P w K mg base CX0 2 "_law_other_rains" ["stock", "spans"] spOther := by
  refine Ok.def0 (f__law_other_rains T) (fun _ _ _ _ _ _ us hl => match us, hl with | [_, _], _ => rfl) sc__law_other_rains (fun vs H Q E h => ?_) (fun f cdv A outer s H vs Q E hr h => ?_)
  · obtain ⟨sa, l, xs, ws, rfl, _⟩ := h
    rfl
  · obtain ⟨sa, l, xs, ws, rfl, hst, hl, hls, hP, hw1, hw, hg, k⟩ := h
    refine ⟨_, (pss_cons (ps_set (i := 2) sc__law_other_rains.nd rfl (by first | exact Or.inl rfl | exact Or.inr rfl) (pe_ok (ok__law_can_rains T) (hr.mono (by first | decide | omega)) rfl pass0 (pa_cons (pv 1) pa_nil)))
      (pss_cons (ps_setLc (i := 4) (own := [("turn", 3)]) rfl sc__law_other_rains.nd rfl rfl (sw_true rfl rfl rfl (by decide +kernel)) (pi_range1 rfl (n_range T) (pa_cons (pe_op op_add pe_int (pe_ok (ok__law_draw T) (hr.mono (by first | decide | omega)) rfl pass0 (pa_cons (pv 0) (pa_cons pe_int pa_nil)))) pa_nil)) (blkOk_by (N := ["stock", "spans", "rains", "turn", "rows", "row", "cans"]) (sc := defScope s__law_other_rains) (by decide +kernel)) (fun _ _ _ _ _ => (pg_name (i := 3) sc__law_other_rains.nd rfl (by first | exact Or.inl rfl | exact Or.inr rfl))) (fun _ _ _ _ _ => pts_nil) (fun _ _ _ _ _ => (pe_ok (ok__law_draw T) (hr.mono (by first | decide | omega)) rfl pass0 (pa_cons (pv 0) (pa_cons (pe_callB (len_seqK (K := K) rfl) rfl (n_len T) (by decide +kernel) (pa_cons (pv 2) pa_nil)) pa_nil)))))
      (pss_cons (ps_for PassesOwn.never rfl (pi_listK (K := K) rfl (pv 4)) (pg_name (i := 5) sc__law_other_rains.nd rfl (by first | exact Or.inl rfl | exact Or.inr rfl))
        (pss_cons (ps_set (i := 6) sc__law_other_rains.nd rfl (by first | exact Or.inl rfl | exact Or.inr rfl) (pe_ix (ix_listK (K := K) rfl) (pe_lst (pa_cons (pe_tup (pa_cons pe_int (pa_cons pe_int pa_nil))) (pa_cons (pe_tup (pa_cons pe_int (pa_cons pe_int pa_nil))) (pa_cons (pe_tup (pa_cons pe_int (pa_cons pe_int pa_nil))) (pa_cons (pe_tup (pa_cons pe_int (pa_cons pe_int pa_nil))) (pa_cons (pe_tup (pa_cons pe_int (pa_cons (pe_op op_pow pe_int pe_int) pa_nil))) pa_nil)))))) (pe_ok (ok__law_draw T) (hr.mono (by first | decide | omega)) rfl pass0 (pa_cons (pv 0) (pa_cons pe_int pa_nil))) (fun _ _ => rfl)))
      (pss_one (ps_asg (pe_tup (pa_cons (pe_ix (ix_seqK (K := K) rfl) (pe_ix (ix_listK (K := K) rfl) (pv 1) (pv 5) (fun _ _ => rfl)) pe_int (fun _ _ => rfl)) (pa_cons (pe_ix (ix_seqK (K := K) rfl) (pe_ix (ix_listK (K := K) rfl) (pv 1) (pv 5) (fun _ _ => rfl)) pe_int (fun _ _ => rfl)) (pa_cons (pe_ix (ix_seqK (K := K) rfl) (pv 6) pe_int (fun _ _ => rfl)) (pa_cons (pe_ix (ix_seqK (K := K) rfl) (pv 6) pe_int (fun _ _ => rfl)) pa_nil))))) (pg_sub (pv 2) (pv 5) set_list)))))
      (pss_one (ps_ret (pe_tup (pa_cons (pv 2) (pa_cons (pe_op op_add (pe_callB (minK (K := K) rfl rfl) rfl (n_min T) (by decide +kernel) (pa_cons (pv 4) pa_nil)) pe_int) pa_nil)))))))), ?_⟩
    have hxl : xs.length = ws.length := Paired.length hP
    refine ⟨_, rfl, l, xs, ws, rfl, hl, hP, hw, fun rl ys H1 hrl s1 g1 hQ => ?_⟩
    have hyl : ys.length = ws.length := by rw [Paired.length hQ, List.length_map]
    have st1 := hst.same s1
    have rsa : rl ≠ sa := fun z => hst.ne (by rw [← z]; exact hrl)
    refine ⟨_, rfl, sa, 2, rfl, by decide, by decide, st1, fun tn a1 b1 c1 t0 t1 => ⟨_, _, rfl, rfl, ?_⟩⟩
    obtain ⟨b2, st2⟩ := drew (H := H1) (sa := sa) a1 b1 c1
    generalize upd H1 sa (stk a1 b1 c1) = H2 at b2 st2 ⊢
    have c2 : But sa H H2 := (But.of s1).trans b2
    refine ⟨_, rfl, by omega, by omega, fun D hD => lc_uptoB (lo := 0) (L := (1 + tn).toNat) (sa := sa) (by omega) hD st2.ne (by omega) (fun j acc H' => ∃ ks : List Int, acc = ks.map V.int ∧ ks.length = j ∧ (∀ z ∈ ks, 0 ≤ z ∧ z < (ws.length : Int)) ∧ Stk H' sa) (fun H' s' => ⟨[], rfl, rfl, (fun z h => by cases h), st2.same s'⟩) ?_ ?_⟩
    · rintro j acc H3 N N0 hj b3 hacc ⟨ks, rfl, hkl, hks, st3⟩ hN hN0
      refine gnE ⟨rfl, ?_⟩
      have hrl3 : H3 rl = some (.lst ys) := b3 _ _ (b2 _ _ g1 rsa) rsa
      refine ⟨_, rfl, _, rfl, _, _, rfl, .inl (SqL.of hrl3), sa, _, rfl, by omega, by omega, st3, fun r a b c r0 r1 => ?_⟩
      have Dsa : D ≠ sa := fun z => st2.ne (by rw [← z]; exact hD)
      obtain ⟨b4, st4⟩ := drew (H := H3) (sa := sa) a b c
      refine hN _ _ b4 fun H5 b5 _ => ⟨ks ++ [r], by rw [List.map_append]; rfl, by rw [List.length_append, hkl]; rfl, fun z hz => ?_, ?_⟩
      · rcases List.mem_append.mp hz with hz | hz
        · exact hks z hz
        · rw [List.mem_singleton.mp hz]
          omega
      · obtain ⟨x, y, z, h⟩ := st4
        exact ⟨x, y, z, b5 _ _ h Dsa.symm⟩
    · rintro acc H3 b3 hacc hal ⟨ks, rfl, hkl, hks, st3⟩
      have c3 := c2.trans b3
      have hrl3 : H3 rl = some (.lst ys) := b3 _ _ (b2 _ _ g1 rsa) rsa
      obtain ⟨u1, u2, u3, hst1⟩ := id st1
      obtain ⟨v1, v2, v3, hst2⟩ := id st2
      have hQ3 : Paired (QuadT H3) ys (ws.map canR) := Paired.mapP hQ fun _ _ z => (z.but hst1 b2).but hst2 b3
      have Drl : D ≠ rl := fun z => by
        have := b2 _ _ g1 rsa
        rw [← z, hD] at this
        cases this
      have Dsa : D ≠ sa := fun z => st2.ne (by rw [← z]; exact hD)
      have lrl : l ≠ rl := fun z => by rw [← z, hl] at hrl; cases hrl
      have hcan : ∀ (i : Nat) (r : Q4), (ws.map canR)[i]? = some r → r.2.2.1 = 1 ∧ r.2.2.2 = 1 := fun i r h => OneCan.can r (List.mem_of_getElem? h)
      clear hQ b3 b2 hst1 hst2 g1 hD
      refine ⟨_, rfl, D, rfl, ⟨_, SqL.of hacc⟩, for_list (K := K) (a := D) (xs := ks.map V.int) (fun j σ H' => ∃ v5 v6 ys rs, σ = [some (.ref sa), some (.ref l), some (.ref rl), none, some (.ref D), v5, v6] ∧ But sa H H' ∧ Stk H' sa ∧ H' D = some (.lst (ks.map V.int)) ∧ H' rl = some (.lst ys) ∧ Paired (QuadT H') ys rs ∧ rs.length = ws.length ∧ (∀ r ∈ rs, GoodR r) ∧ ∀ (i : Nat) (r : Q4), rs[i]? = some r → (((i : Nat) : Int) ∈ ks.take j → ¬ (r.2.2.1 = 1 ∧ r.2.2.2 = 1)) ∧ (((i : Nat) : Int) ∉ ks.take j → r.2.2.1 = 1 ∧ r.2.2.2 = 1)) ⟨_, _, ys, ws.map canR, rfl, c3, st3, hacc, hrl3, hQ3, List.length_map _, hg, fun i r h => ⟨fun z => by simp at z, fun _ => hcan i r h⟩⟩ (fun _ _ _ _ ⟨_, _, _, _, _, _, _, z, _⟩ => SqL.of z) ?_ ?_⟩
      · rintro j x σ H4 hx ⟨v5, v6, ys, rs, rfl, e4, st4, hD4, hr4, hQ4, hrsl, hG4, hsp⟩
        obtain ⟨z, hz, rfl⟩ := ints_get hx
        obtain ⟨z0, z1⟩ := hks z (List.mem_of_getElem? hz)
        obtain ⟨n, rfl⟩ : ∃ n : Nat, z = (n : Int) := ⟨z.toNat, by omega⟩
        refine gnE ?_
        refine ⟨(by show 2 ≤ sizeLine; decide), fun t1 h1 => ⟨(by show 2 ≤ sizeLine; decide), fun t2 h2 => ⟨(by show 2 ≤ sizeLine; decide), fun t3 h3 => ⟨(by show 2 ≤ sizeLine; decide), fun t4 h4 => ⟨_, _, rfl, rfl, (by unfold CPow; decide), (by show 2 ≤ sizeLine; decide), fun t5 h5 => ⟨(by show 5 ≤ sizeLine; decide), fun cl hcl => ?_⟩⟩⟩⟩⟩⟩
        have e12 : (10 : Int) ^ Int.toNat 12 = 10 ^ 12 := by decide
        obtain ⟨q1, w1⟩ := new2 (.tup [.int 0, .int 1]) h1
        obtain ⟨q2, w2⟩ := new2 (.tup [.int 1, .int 2]) h2
        obtain ⟨q3, w3⟩ := new2 (.tup [.int 2, .int 2]) h3
        obtain ⟨q4, w4⟩ := new2 (.tup [.int 0, .int 0]) h4
        obtain ⟨q5, w5⟩ := new2 (.tup [.int 1, (fun (i j : Int) => V.int (i ^ j.toNat)) 10 12]) h5
        obtain ⟨q6, w6⟩ := new2 (.lst [V.ref t1, V.ref t2, V.ref t3, V.ref t4, V.ref t5]) hcl
        have w1 := q6 _ _ (q5 _ _ (q4 _ _ (q3 _ _ (q2 _ _ w1))))
        have w2 := q6 _ _ (q5 _ _ (q4 _ _ (q3 _ _ w2)))
        have w3 := q6 _ _ (q5 _ _ (q4 _ _ w3))
        have w4 := q6 _ _ (q5 _ _ w4)
        have w5 := q6 _ _ w5
        have w5 : _ = some (HO.tup [V.int 1, V.int ((10 : Int) ^ Int.toNat 12)]) := w5
        rw [e12] at w5
        have qq := q1.trans (q2.trans (q3.trans (q4.trans (q5.trans q6))))
        generalize upd _ cl (.lst [V.ref t1, V.ref t2, V.ref t3, V.ref t4, V.ref t5]) = H5 at w1 w2 w3 w4 w5 w6 qq ⊢
        have st5 := st4.same qq
        refine ⟨_, rfl, sa, 5, rfl, by decide, by decide, st5, fun r a b c r0 r1 => ?_⟩
        obtain ⟨b6, st6⟩ := drew (H := H5) (sa := sa) a b c
        generalize upd H5 sa (stk a b c) = H6 at b6 st6 ⊢
        have csa : cl ≠ sa := fun z => by
          obtain ⟨x, y, z', h⟩ := st5
          rw [z, h] at w6
          cases w6
        obtain ⟨u, cc, hu, hcc, hgc⟩ : ∃ u cc, ([V.ref t1, V.ref t2, V.ref t3, V.ref t4, V.ref t5])[r.toNat]? = some u ∧ PairT H5 u cc ∧ CanC cc := by
          obtain rfl | rfl | rfl | rfl | rfl : r = 0 ∨ r = 1 ∨ r = 2 ∨ r = 3 ∨ r = 4 := by omega
          · exact ⟨_, (0, 1), rfl, ⟨t1, rfl, w1⟩, by unfold CanC; decide⟩
          · exact ⟨_, (1, 2), rfl, ⟨t2, rfl, w2⟩, by unfold CanC; decide⟩
          · exact ⟨_, (2, 2), rfl, ⟨t3, rfl, w3⟩, by unfold CanC; decide⟩
          · exact ⟨_, (0, 0), rfl, ⟨t4, rfl, w4⟩, by unfold CanC; decide⟩
          · exact ⟨_, (1, 10 ^ 12), rfl, ⟨t5, rfl, w5⟩, by unfold CanC; decide⟩
        obtain ⟨x5, y5, z5, hst5⟩ := id st5
        have hcc := hcc.but hst5 b6
        refine ⟨cl, _, r, u, rfl, rfl, SqL.of (b6 _ _ w6 csa), atI_int r0 hu, ?_⟩
        have e6 : But sa H H6 := (e4.trans (But.of qq)).trans b6
        obtain ⟨x0, y0, z0', hst0⟩ := id hst
        obtain ⟨y, hy⟩ : ∃ y, xs[n]? = some y := ⟨xs[n]'(by omega), List.getElem?_eq_getElem _⟩
        obtain ⟨sc, hsc, hr⟩ := paired_get hP hy
        have hr := hr.but hst0 e6
        have hl6 := e6 _ _ hl hls
        refine ⟨_, rfl, _, rfl, l, xs, _, y, rfl, rfl, SqL.of hl6, at_of rfl hy, hr.i0 ⟨_, rfl, _, rfl, l, xs, _, y, rfl, rfl, SqL.of hl6, at_of rfl hy, hr.i1 ⟨_, rfl, hcc.i0 ⟨_, rfl, hcc.i1 ⟨(by show 4 ≤ sizeLine; decide), fun t ht => ?_⟩⟩⟩⟩⟩
        obtain ⟨s7, w7⟩ := new2 (.tup [.int sc.1, .int sc.2, .int cc.1, .int cc.2]) ht
        have hr7 := s7 _ _ (b6 _ _ (qq _ _ hr4) rsa)
        have hD7 := s7 _ _ (b6 _ _ (qq _ _ hD4) Dsa)
        have hys : ys.length = rs.length := Paired.length hQ4
        refine ⟨_, rfl, _, rfl, rl, ys, _, n, rfl, rfl, hr7, ix_nat (by omega), ?_⟩
        have hq7 : Paired (QuadT (upd H6 t (.tup [.int sc.1, .int sc.2, .int cc.1, .int cc.2]))) ys rs := Paired.mapP hQ4 fun _ _ z => ((z.same qq).but hst5 b6).same s7
        refine ⟨_, _, ys.set n (.ref t), rs.set n (sc.1, sc.2, cc.1, cc.2), rfl, (e6.trans (But.of s7)).mut hrl, (st6.same s7).but rsa.symm, by rw [upd_ne Drl]; exact hD7, upd_same, paired_setv (QuadT.mut hr7 ⟨t, rfl, w7⟩) n (Paired.mapP hq7 fun _ _ z => z.mut hr7), by rw [List.length_set]; exact hrsl, fun r hr => ?_, fun i r hi => ?_⟩
        · rcases List.mem_or_eq_of_mem_set hr with h | rfl
          · exact hG4 r h
          · have h1 := hg (canR sc) (List.mem_map.mpr ⟨sc, List.mem_of_getElem? hsc, rfl⟩)
            unfold GoodR canR at h1
            unfold CanC at hgc
            exact ⟨h1.1, h1.2.1, hgc.1, hgc.2.1, hgc.2.2.1⟩
        · rw [take_get hz]
          by_cases ei : i = n
          · subst ei
            rw [List.getElem?_set_self (by omega)] at hi
            cases hi
            exact ⟨fun _ => hgc.2.2.2, fun h => absurd (List.mem_append_right _ (List.mem_singleton.mpr rfl)) h⟩
          · rw [List.getElem?_set_ne (by omega)] at hi
            obtain ⟨p1, p2⟩ := hsp i r hi
            refine ⟨fun h => ?_, fun h => p2 fun h' => h (List.mem_append_left _ h')⟩
            rcases List.mem_append.mp h with h | h
            · exact p1 h
            · have := List.mem_singleton.mp h
              omega
      · rintro σ H4 ⟨v5, v6, ys, rs, rfl, e4, st4, hD4, hr4, hQ4, hrsl, hG4, hsp⟩
        have hkl' : (ks.map V.int).length = ks.length := List.length_map _
        rw [hkl', List.take_length] at hsp
        refine ⟨_, rfl, _, rfl, D, ks, rfl, SqL.of hD4, by omega, fun m hm hmin => ⟨_, _, rfl, rfl, (by show 2 ≤ sizeLine; decide), fun t ht => ?_⟩⟩
        obtain ⟨m0, m1⟩ := hks m hm
        obtain ⟨n, rfl⟩ : ∃ n : Nat, m = (n : Int) := ⟨m.toNat, by omega⟩
        obtain ⟨s5, g5⟩ := new2 (.tup [.ref rl, .int ((n : Int) + 1)]) ht
        obtain ⟨r, hr⟩ : ∃ r, rs[n]? = some r := ⟨rs[n]'(by omega), List.getElem?_eq_getElem _⟩
        refine k t rl ys rs n _ (e4.trans (But.of s5)) (st4.same s5) g5 (s5 _ _ hr4) (Paired.mapP hQ4 fun _ _ z => z.same s5) (by omega) hG4 ⟨r, hr, fun m' hm' r' hr' => (hsp m' r' hr').2 fun hin => ?_, (hsp n r hr).1 hm⟩
        have := hmin _ hin
        omega
end
end K26
end
section
set_option maxRecDepth 100000
set_option maxHeartbeats 4000000
namespace K26
open PySem PySem.Spec PyProof.Rows L2
theorem mt_up : ∀ {k : Nat} {H : Hp} {v u : V}, Mt k H v u → Mt (k + 1) H v u
  | 0, _, _, _, h => .inl h
  | k + 1, _, _, _, .inl h => .inl h
  | k + 1, _, _, _, .inr ⟨a, b, xs, ys, e1, e2, h, hl, hz, hr⟩ => .inr ⟨a, b, xs, ys, e1, e2, h, hl, hz, fun i x y hx hy => mt_up (hr i x y hx hy)⟩
theorem via {te : TE} {σ : L2.St} {H : Hp} {K : VK} (PV : V → Hp → Prop) (h : ∀ R : VK, (∀ v H', PV v H' → R v H') → te σ H R) (q : ∀ v H', PV v H' → K v H') : te σ H K := h K q
theorem same_but {H H' H1 H5 : Hp} {p : Addr} (e : Same H H') (n : H' p = none) (s : Same H' H1) (b : But p H1 H5) : Same H H5 := fun c o h => b c o (s _ _ (e _ _ h)) fun z => by rw [← z, e _ _ h] at n; cases n
theorem made {K : PySem.W.Frag} {E : XK} {Q : Addr → Hp → Prop} {H : Hp} {s : Addr} {ys : List V} {rs : List Q4} {d : Int} (hS : H s = some (.lst ys)) (hP : Paired (QuadT H) ys rs) (d1 : 1 ≤ d) (d2 : d ≤ 24) (hl : rs.length ≤ 40) (hg : ∀ r ∈ rs, GoodR r)
    (k : ∀ x H', H x = none → Same H H' → AlmAt K H' x d rs → Q x H') :
    ∀ x dx, H x = none → H dx = none → dx ≠ x → spAInit K (.ref x :: ([.int d, .ref s] ++ [])) (upd (upd H dx (.own x)) x (.ins (cA K) dx [])) (fun v H2 => v = .non ∧ Q x H2) E := by
  intro x dx hx hdx hne
  have s1 : Same H (upd (upd H dx (.own x)) x (.ins (cA K) dx [])) := same_mut (same_new hdx) hx
  exact ⟨x, dx, d, s, ys, rs, rfl, upd_same, s1 _ _ hS, Paired.mapP hP fun _ _ z => z.same s1, d1, d2, hl, hg, fun H' b hA => ⟨rfl, k x H' hx (fun c o hc => b c o (s1 c o hc) (ne_of_none hc hx)) hA⟩⟩
theorem quads_ne {H : Hp} {sa r : Addr} {xs : List V} {rs : List Q4} (hs : Stk H sa) (h : H r = some (.lst xs)) (hp : Paired (QuadT H) xs rs) : r ≠ sa := fun z => by
  obtain ⟨a, b, c, hs⟩ := hs
  rw [z, hs] at h
  have := HO.lst.inj (Option.some.inj h)
  subst this
  cases hp with
  | cons r _ =>
    obtain ⟨q, e, _⟩ := r
    cases e
theorem AlmAt.but {K : PySem.W.Frag} {H H' : Hp} {sa p : Addr} {d : Int} {rs : List Q4} (hs : Stk H sa) (e : But sa H H') (h : AlmAt K H p d rs) : AlmAt K H' p d rs := by
  obtain ⟨dx, l, xs, h1, h2, h3⟩ := h
  obtain ⟨x, y, z, hsa⟩ := id hs
  exact ⟨dx, l, xs, e _ _ h1 (ne_stk hs h1 fun _ z => by cases z), e _ _ h2 (quads_ne hs h2 h3), Paired.mapP h3 fun _ _ z => z.but hsa e⟩
theorem WTD.butS {S : Addr → Prop} {T : Nat} {H H' : Hp} {sa : Addr} (hs : Stk H sa) (e : But sa H H') {y : V} (h : WTD S T H y) : WTD S T H' y := by
  obtain ⟨p, W, rs, h1, h2, h3, h4, h5, h6⟩ := h
  obtain ⟨x, y, z, hsa⟩ := id hs
  exact ⟨p, W, rs, h1, h2, h3, e _ _ h4 (refs_ne hs h4), Paired.mapP h5 fun _ _ ⟨xs, q1, q2⟩ => ⟨xs, e _ _ q1 (rep_ne hs q1 q2), Paired.mapP q2 fun _ _ z => z.but hsa e⟩, h6⟩
theorem WeaT.but {H H' : Hp} {sa p : Addr} {W : List (List (Int × Int))} (hs : Stk H sa) (e : But sa H H') (h : WeaT H p W) : WeaT H' p W := by
  obtain ⟨xs, h1, h2⟩ := h
  obtain ⟨x, y, z, hsa⟩ := id hs
  refine ⟨xs, e _ _ h1 fun q => ?_, Paired.mapP h2 fun _ _ ⟨l, ys, e1, q1, q2⟩ => ⟨l, ys, e1, e _ _ q1 (rep_ne hs q1 q2), Paired.mapP q2 fun _ _ z => z.but hsa e⟩⟩
  rw [q, hsa] at h1
  have := HO.lst.inj (Option.some.inj h1)
  subst this
  cases h2 with
  | cons r _ =>
    obtain ⟨l, ys, e1, _⟩ := r
    cases e1
theorem WT.same {T : Nat} {H H' : Hp} (e : Same H H') {y : V} (h : WT T H y) : WT T H' y := by
  obtain ⟨p, W, h1, h2, h3⟩ := h
  exact ⟨p, W, h1, h2.same e, h3⟩
theorem WT.but {T : Nat} {H H' : Hp} {sa : Addr} (hs : Stk H sa) (e : But sa H H') {y : V} (h : WT T H y) : WT T H' y := by
  obtain ⟨p, W, h1, h2, h3⟩ := h
  exact ⟨p, W, h1, h2.but hs e, h3⟩
theorem no_bad {ws : List (Int × Int)} {n : Nat} (h : BadCan (ws.map canR) n) : False := by
  obtain ⟨r, h1, h2, h3⟩ := h
  exact h3 (OneCan.can r (List.mem_of_getElem? h1))
theorem bad_uniq {rs : List Q4} {n m : Nat} (h : BadCan rs n) (h' : BadCan rs m) : n = m := by
  obtain ⟨r, h1, h2, h3⟩ := h
  obtain ⟨r', h1', h2', h3'⟩ := h'
  rcases Nat.lt_trichotomy n m with c | c | c
  · exact absurd (h2' n c r h1) h3
  · exact c
  · exact absurd (h2 m c r' h1') h3'
/-- what is raised, as data -/
def dRsd (z : Str) (n : Int) : PyData := .tuple [.str "raised", .list [.tuple [.str z, .int n]]]
theorem Rsd.same {H H' : Hp} {r : Addr} {z : Str} {n : Int} (h : Rsd H r z n) (e : Same H H') : Rsd H' r z n := by
  obtain ⟨m1, m2, z1, z2, z3⟩ := h
  exact ⟨m1, m2, e _ _ z1, e _ _ z2, e _ _ z3⟩
theorem Rsd.dp {K : PySem.W.Frag} {H : Hp} {r : Addr} {z : Str} {n : Int} (h : Rsd H r z n) : Dp K H (.ref r) (dRsd z n) := by
  obtain ⟨l, t, h1, h2, h3⟩ := h
  exact .tup (SqT.of h1) (.cons (.str _) (.cons (.lst (SqL.of h2) (.cons (.tup (SqT.of h3) (.cons (.str _) (.cons (.int _) .nil))) .nil)) .nil))
theorem shaped_rsd {z : Str} (hz : PyData.strOk z = true) (n : Int) : SeqAt.shaped (dRsd z n) = true := by
  have h0 : PyData.strOk (Str.ofString "raised") = true := by decide +kernel
  have h1 : (dRsd z n).canLay0 = true := by
    unfold dRsd
    simp [PyData.canLay0, PyData.canLayAll0, hz, h0]
  have h2 : (dRsd z n).depth ≤ 64 := by
    unfold dRsd
    simp [PyData.depth, PyData.depthAll]
  unfold SeqAt.shaped
  rw [h1, decide_eq_true h2]
  rfl
theorem ne_rsd {K : PySem.W.Frag} {H : Hp} {a b : Addr} {z : Str} {n : Int} {Q : VK} (hz : PyData.strOk z = true) (h1 : Rsd H a z n) (h2 : Rsd H b z n) (q : Q (.bl false) H) : rNeD K (.ref a) (.ref b) H Q := by
  refine ⟨_, _, h1.dp, h2.dp, shaped_rsd hz n, shaped_rsd hz n, ?_⟩
  rw [eqv_self (shaped_rsd hz n)]
  exact q
theorem keysL_1000 {M : Nat → Nat → Int} {T : Nat} (hT : T ≤ 24) : (keysL M T).length ≤ 1000 := Nat.le_trans (keysL_le hT) (by decide)
section
variable {P : Program} {w : World} {K : PySem.W.Frag} {mg : Str → Option Value} {base : Heap}
def spLaw (K : PySem.W.Frag) : Sp := fun vs H Q _ => ∃ (a : Addr) (ns : List Int), vs = [.ref a] ∧ SqL K H a (ns.map V.int) ∧ ns.length ≤ 63 ∧ ∀ H', Q (.bl true) H'
theorem fn_law (T : Txt w K mg) {f : Addr} {fd : FuncData} (F : FnP K "law" s_law f fd) : FnG P w K mg base 12 f fd ["script"] (spLaw K) := by
  refine LamX.fnG_def0 F sc_law (fun vs H Q E h => ?_) (fun f cdv A outer s H vs Q hr hgd h => ?_)
  · obtain ⟨a, ns, rfl, _⟩ := h
    rfl
  · obtain ⟨a, ns, rfl, hS, hl, k⟩ := h
    let E : XK := E0
    have ok__law_matches := fun (T : Txt w K mg) => ok_mt3 (P := P) (base := base) T
    refine ⟨_, (pss_cons (ps_for PassesOwn.never rfl (pi_range1 rfl (n_range T) (pa_cons pe_int pa_nil)) (pg_name (i := 1) sc_law.nd rfl (by first | exact Or.inl rfl | exact Or.inr rfl))
        (pss_cons (ps_set (i := 2) sc_law.nd rfl (by first | exact Or.inl rfl | exact Or.inr rfl) (pe_ok (ok__law_stock T) (hr.mono (by first | decide | omega)) rfl pass0 (pa_cons (pv 0) (pa_cons (pv 1) pa_nil))))
      (pss_cons (ps_set (i := 3) sc_law.nd rfl (by first | exact Or.inl rfl | exact Or.inr rfl) (pe_cmpR op_eq (pe_ok (ok__law_draw T) (hr.mono (by first | decide | omega)) rfl pass0 (pa_cons (pv 2) (pa_cons pe_int pa_nil))) pe_int (nomark _)))
      (pss_cons (ps_set (i := 4) sc_law.nd rfl (by first | exact Or.inl rfl | exact Or.inr rfl) (pe_ifExp (pt_val (pv 3)) pe_int (pe_op op_add pe_int (pe_ok (ok__law_draw T) (hr.mono (by first | decide | omega)) rfl pass0 (pa_cons (pv 2) (pa_cons pe_int pa_nil))))))
      (pss_cons (ps_set (i := 5) sc_law.nd rfl (by first | exact Or.inl rfl | exact Or.inr rfl) (pe_ok (ok__law_draw_spans T) (hr.mono (by first | decide | omega)) rfl pass0 (pa_cons (pv 2) (pa_cons (pv 4) (pa_cons (pe_ifExp (pt_val (pv 3)) pe_int (pe_ok (ok__law_draw T) (hr.mono (by first | decide | omega)) rfl pass0 (pa_cons (pv 2) (pa_cons pe_int pa_nil)))) (pa_cons (pe_ifExp (pt_val (pv 3)) (pe_op op_pow pe_int pe_int) pe_int) pa_nil))))))
      (pss_cons (ps_set (i := 6) sc_law.nd rfl (by first | exact Or.inl rfl | exact Or.inr rfl) (pe_ok (ok__law_can_rains T) (hr.mono (by first | decide | omega)) rfl pass0 (pa_cons (pv 5) pa_nil)))
      (pss_cons (ps_set (i := 7) sc_law.nd rfl (by first | exact Or.inl rfl | exact Or.inr rfl) (pe_okK (okk_Almanac T) (hr.mono (by first | decide | omega)) rfl passL (pa_cons (pv 4) (pa_cons (pv 6) pa_nil))))
      (pss_cons (ps_set (i := 8) sc_law.nd rfl (by first | exact Or.inl rfl | exact Or.inr rfl) (pe_ok (ok__law_key_list T) (hr.mono (by first | decide | omega)) rfl pass0 (pa_cons (pv 4) (pa_cons (pe_ok (ok__law_span_table T) (hr.mono (by first | decide | omega)) rfl pass0 (pa_cons (pv 4) (pa_cons (pv 5) pa_nil))) pa_nil))))
      (pss_cons (ps_set (i := 9) sc_law.nd rfl (by first | exact Or.inl rfl | exact Or.inr rfl) (pe_ok (ok_key_stretches T) (hr.mono (by first | decide | omega)) rfl passL (pa_cons (pv 7) pa_nil)))
      (pss_cons (ps_if (pt_not (pt_val (pe_ok (ok__law_matches T) (hr.mono (by first | decide | omega)) rfl pass0 (pa_cons (pv 9) (pa_cons (pv 8) pa_nil))))) (pss_one (ps_ret pe_bl)) pss_nil)
      (pss_cons (ps_expr (pe_ok (ok__law_spoil T) (hr.mono (by first | decide | omega)) rfl pass0 (pa_cons (pv 9) pa_nil)))
      (pss_cons (ps_setLc (i := 11) (own := [("again", 10)]) rfl sc_law.nd rfl rfl (sw_true rfl rfl rfl (by decide +kernel)) (pi_range1 rfl (n_range T) (pa_cons pe_int pa_nil)) (blkOk_by (N := ["script", "turn", "stock", "great", "days", "spans", "rains", "almanac", "due", "told", "again", "weathers", "weather", "others", "row", "bad"]) (sc := defScope s_law) (by decide +kernel)) (fun _ _ _ _ _ => (pg_name (i := 10) sc_law.nd rfl (by first | exact Or.inl rfl | exact Or.inr rfl))) (fun _ _ _ _ _ => pts_nil) (fun _ _ _ _ _ => (pe_ok (ok__law_draw_weather T) (hr.mono (by first | decide | omega)) rfl pass0 (pa_cons (pv 2) (pa_cons (pv 4) (pa_cons (pv 5) pa_nil))))))
      (pss_cons (ps_if (pt_not (pt_val (pv 3))) (pss_one (ps_set (i := 11) sc_law.nd rfl (by first | exact Or.inl rfl | exact Or.inr rfl) (pe_op op_cat (pv 11) (pe_ok (ok__law_weathers T) (hr.mono (by first | decide | omega)) rfl pass0 (pa_cons (pv 4) (pa_cons (pv 6) (pa_cons pe_bl pa_nil))))))) pss_nil)
      (pss_cons (ps_for PassesOwn.never rfl (pi_listK (K := K) rfl (pv 11)) (pg_name (i := 12) sc_law.nd rfl (by first | exact Or.inl rfl | exact Or.inr rfl))
        (pss_one (ps_if (pt_not (pt_val (pe_ok (ok__law_tight_right T) (hr.mono (by first | decide | omega)) rfl pass0 (pa_cons (pv 7) (pa_cons (pv 4) (pa_cons (pv 5) (pa_cons (pv 12) pa_nil))))))) (pss_one (ps_ret pe_bl)) pss_nil)))
      (pss_cons (ps_for PassesOwn.never rfl (pi_range1 rfl (n_range T) (pa_cons pe_int pa_nil)) (pg_name (i := 10) sc_law.nd rfl (by first | exact Or.inl rfl | exact Or.inr rfl))
        (pss_one (ps_if (pt_not (pt_val (pe_ok (ok__law_tight_right T) (hr.mono (by first | decide | omega)) rfl pass0 (pa_cons (pv 7) (pa_cons (pv 4) (pa_cons (pv 5) (pa_cons (pe_ok (ok__law_bent_weather T) (hr.mono (by first | decide | omega)) rfl pass0 (pa_cons (pv 2) (pa_cons (pe_ix (ix_listK (K := K) rfl) (pv 11) pe_int (fun _ _ => rfl)) pa_nil))) pa_nil))))))) (pss_one (ps_ret pe_bl)) pss_nil)))
      (pss_cons (ps_if (pt_not (pt_val (pe_ok (ok__law_matches T) (hr.mono (by first | decide | omega)) rfl pass0 (pa_cons (pe_ok (ok_key_stretches T) (hr.mono (by first | decide | omega)) rfl passL (pa_cons (pv 7) pa_nil)) (pa_cons (pv 8) pa_nil))))) (pss_one (ps_ret pe_bl)) pss_nil)
      (pss_one (ps_if (pt_cmpR op_gt (pe_callB (len_seqK (K := K) rfl) rfl (n_len T) (by decide +kernel) (pa_cons (pv 5) pa_nil)) pe_int (nomark _)) (pss_cons (ps_asg (pe_ok (ok__law_other_rains T) (hr.mono (by first | decide | omega)) rfl pass0 (pa_cons (pv 2) (pa_cons (pv 5) pa_nil))) (pg_tupK (K := K) (n := 2) rfl rfl (pgs_cons (pg_name (i := 13) sc_law.nd rfl (by first | exact Or.inl rfl | exact Or.inr rfl)) (pgs_cons (pg_name (i := 14) sc_law.nd rfl (by first | exact Or.inl rfl | exact Or.inr rfl)) pgs_nil))))
      (pss_cons (ps_set (i := 15) sc_law.nd rfl (by first | exact Or.inl rfl | exact Or.inr rfl) (pe_okK (okk_Almanac T) (hr.mono (by first | decide | omega)) rfl passL (pa_cons (pv 4) (pa_cons (pv 13) pa_nil))))
      (pss_cons (ps_if (pt_cmpR (neDK (K := K) rfl hr.units) (pe_ok (ok__law_ask_keys T) (hr.mono (by first | decide | omega)) rfl pass0 (pa_cons (pv 15) pa_nil)) (pe_tup (pa_cons pe_str (pa_cons (pe_lst (pa_cons (pe_tup (pa_cons pe_str (pa_cons (pv 14) pa_nil))) pa_nil)) pa_nil))) (nomark _)) (pss_one (ps_ret pe_bl)) pss_nil)
      (pss_one (ps_if (pt_cmpR (neDK (K := K) rfl hr.units) (pe_ok (ok__law_ask_tight T) (hr.mono (by first | decide | omega)) rfl pass0 (pa_cons (pv 15) (pa_cons (pe_ok (ok__law_bent_weather T) (hr.mono (by first | decide | omega)) rfl pass0 (pa_cons (pv 2) (pa_cons (pe_ix (ix_listK (K := K) rfl) (pv 11) pe_int (fun _ _ => rfl)) pa_nil))) pa_nil))) (pe_tup (pa_cons pe_str (pa_cons (pe_lst (pa_cons (pe_tup (pa_cons pe_str (pa_cons (pv 14) pa_nil))) pa_nil)) pa_nil))) (nomark _)) (pss_one (ps_ret pe_bl)) pss_nil))))) pss_nil))))))))))))))))))
      (pss_one (ps_ret pe_bl))), ?_⟩
    refine ⟨_, rfl, by decide, by decide, for_upto (lo := 0) (L := 2) rfl (fun j σ H' => ∃ v1 v2 v3 v4 v5 v6 v7 v8 v9 v10 v11 v12 v13 v14 v15, σ = [some (.ref a), v1, v2, v3, v4, v5, v6, v7, v8, v9, v10, v11, v12, v13, v14, v15] ∧ Same H H') ⟨_, _, _, _, _, _, _, _, _, _, _, _, _, _, _, rfl, Same.refl H⟩ ?_ (fun σ H' _ => k H')⟩
    rintro j σ H0 hj ⟨v1, v2, v3, v4, v5, v6, v7, v8, v9, v10, v11, v12, v13, v14, v15, rfl, e0⟩
    refine gnE ?_
    have again : ∀ (H' : Hp) (v2 v3 v4 v5 v6 v7 v8 v9 v10 v11 v12 v13 v14 v15 : Option V), Same H H' → (fun (σ : L2.St) (H' : Hp) => ∃ v1 v2 v3 v4 v5 v6 v7 v8 v9 v10 v11 v12 v13 v14 v15, σ = [some (.ref a), v1, v2, v3, v4, v5, v6, v7, v8, v9, v10, v11, v12, v13, v14, v15] ∧ Same H H') [some (.ref a), some (.int (0 + (j : Int))), v2, v3, v4, v5, v6, v7, v8, v9, v10, v11, v12, v13, v14, v15] H' := fun H' v2 v3 v4 v5 v6 v7 v8 v9 v10 v11 v12 v13 v14 v15 e => ⟨_, v2, v3, v4, v5, v6, v7, v8, v9, v10, v11, v12, v13, v14, v15, rfl, e⟩
    refine ⟨_, rfl, _, rfl, a, ns, _, rfl, e0.seq hS, hl, by omega, by omega, fun sa H1 hsa s1 st1 => ?_⟩
    have hsaH : H sa = none := none_of e0 hsa
    -- great
    refine nxE (st_let (fun v H2 => ∃ g, v = .bl g ∧ But sa H1 H2 ∧ Stk H2 sa) (fun R hR => ?_) (fun v H2 hv => ?_))
    · exact ⟨_, rfl, sa, 10, rfl, by decide, by decide, st1, fun r x y z r0 r1 => ⟨rfl, hR _ _ ⟨_, rfl, drew x y z⟩⟩⟩
    obtain ⟨g, rfl, b2, st2⟩ := hv
    -- days
    refine st_let (fun v H3 => ∃ d : Nat, v = .int (d : Int) ∧ 1 ≤ d ∧ d ≤ 24 ∧ (g = false → d ≤ 7) ∧ But sa H2 H3 ∧ Stk H3 sa) (fun R hR => ?_) (fun v H3 hv => ?_)
    · cases g with
      | true => exact ⟨_, rfl, _, rfl, hR _ _ ⟨24, rfl, by omega, by omega, (fun z => by cases z), But.refl _ _, st2⟩⟩
      | false => exact ⟨_, rfl, _, rfl, _, rfl, sa, 7, rfl, by decide, by decide, st2, fun r x y z r0 r1 => ⟨_, _, rfl, rfl, hR _ _ ⟨(1 + r).toNat, by rw [Int.toNat_of_nonneg (by omega)], by omega, by omega, fun _ => by omega, drew x y z⟩⟩⟩
    obtain ⟨d, rfl, d1, d2, d7, b3, st3⟩ := hv
    -- spans
    refine st_let (fun v H4 => ∃ l xs ws, v = .ref l ∧ H3 l = none ∧ But sa H3 H4 ∧ Stk H4 sa ∧ H4 l = some (.lst xs) ∧ Paired (PairT H4) xs ws ∧ ws.length ≤ 40 ∧ (g = false → ws.length ≤ 5) ∧ ∀ c ∈ ws, SpanOk d c) (fun R hR => ?_) (fun v H4 hv => ?_)
    · cases g with
      | true =>
        refine ⟨_, rfl, _, rfl, _, rfl, _, rfl, _, rfl, _, rfl, _, _, rfl, rfl, (by unfold CPow; decide), d, 40, sa, _, rfl, st3, d1, d2, by omega, (by decide), (by decide), fun l xs ws H' h0 b st h1 hP hn hs => hR _ _ ⟨l, xs, ws, rfl, h0, b, st, h1, hP, by omega, (fun z => by cases z), hs⟩⟩
      | false =>
        refine ⟨_, rfl, _, rfl, _, rfl, _, rfl, _, rfl, sa, 6, rfl, by decide, by decide, st3, fun r x y z r0 r1 => ?_⟩
        obtain ⟨bb, stb⟩ := drew (H := H3) (sa := sa) x y z
        have hne : ∀ l, upd H3 sa (stk x y z) l = none → H3 l = none := fun l h => bb.free stb.ne h
        generalize upd H3 sa (stk x y z) = H3' at bb stb hne ⊢
        obtain ⟨n, rfl⟩ : ∃ n : Nat, r = (n : Int) := ⟨r.toNat, by omega⟩
        refine ⟨_, rfl, _, rfl, d, n, sa, _, rfl, stb, d1, d2, by omega, (by decide), (by decide), fun l xs ws H' h0 b st h1 hP hn hs => hR _ _ ⟨l, xs, ws, rfl, hne l h0, bb.trans b, st, h1, hP, by omega, fun _ => by omega, hs⟩⟩
    obtain ⟨l, xs, ws, rfl, hl0, b4, st4, hl4, hP4, hw, hw5, hso⟩ := hv
    have lsa : l ≠ sa := fun z => st3.ne (by rw [← z]; exact hl0)
    have hg := SpanOk.good hso
    have e4 : Same H H4 := by
      have b : But sa H1 H4 := b2.trans (b3.trans b4)
      exact same_but e0 hsa s1 b
    clear b2 b3 b4 st1 st2 st3 s1 hl0
    -- rains
    refine ⟨_, rfl, l, xs, ws, rfl, hl4, hP4, hw, fun rl qs H5 hrl s5 g5 hQ5 => ?_⟩
    -- the almanac
    refine ⟨_, rfl, _, rfl, made g5 hQ5 (by omega) (by omega) (by rw [List.length_map]; exact hw) hg fun p H6 hp s6 hA6 => ?_⟩
    have s46 := s5.trans s6
    have hl6 := s46 _ _ hl4
    have hP6 := Paired.mapP hP4 fun _ _ z => z.same s46
    -- due
    refine ⟨_, rfl, _, rfl, _, rfl, d, l, xs, ws, rfl, hl6, hP6, hw, d2, fun tb H7 htb s7 g7 => ⟨d, tb, tabS ws, rfl, g7, d2, fun dl ks H8 hdl s8 g8 hK8 => ?_⟩⟩
    have s48 := s46.trans (s7.trans s8)
    have hA8 := hA6.same (s7.trans s8)
    -- told
    refine ⟨_, rfl, d, p, ws.map canR, rfl, hA8, by rw [List.length_map]; exact hw, d2, hg, fun hone q zs H9 hq s9 g9 hK9 => ?_, fun n hb => (no_bad hb).elim⟩
    have hone : OneCan (ws.map canR) := hone
    refine ⟨_, rfl, _, rfl, .ref q, .ref dl, rfl, mt_up (mt_pairs (ws := keysL (tabS ws) d) (keysL_1000 d2) g9 (s9 _ _ g8) (by rw [tabS_R]; exact hK9) (Paired.mapP hK8 fun _ _ z => z.same s9)), fun H10 s10 => ⟨_, rfl, ?_⟩⟩
    refine ⟨_, rfl, q, zs, rfl, s10 _ _ g9, by rw [Paired.length hK9]; exact keysL_1000 d2, fun H11 b11 => ?_⟩
    have s8b : Same H8 H11 := same_but (Same.refl H8) hq (s9.trans s10) b11
    have s411 := s48.trans s8b
    have st11 := st4.same s411
    have hA11 := hA8.same s8b
    have hl11 := s411 _ _ hl4
    have hP11 := Paired.mapP hP4 fun _ _ z => z.same s411
    have hrl11 := (s6.trans (s7.trans (s8.trans s8b))) _ _ g5
    have hQ11 := Paired.mapP hQ5 fun _ _ z => z.same (s6.trans (s7.trans (s8.trans s8b)))
    have hdl11 := s8b _ _ g8
    have hK11 := Paired.mapP hK8 fun _ _ z => z.same s8b
    have e11 := e4.trans s411
    clear s8b b11 s10 s9 s8 s7 s6 s5 s46 s48 s411 hK9 hK8 hQ5 hP6 hP4 hA8 hA6 st4 e4 g9 g8 g7 g5
    -- two drawn weathers
    refine ⟨_, rfl, by decide, by decide, fun D hD => lc_uptoB (lo := 0) (L := 2) (sa := sa) rfl hD st11.ne (by decide) (fun j acc H' => acc.length = j ∧ Stk H' sa ∧ ∀ y ∈ acc, WTD (fun D' => D' = D) d H' y) (fun H' s' => ⟨rfl, st11.same s', fun y hy => by cases hy⟩) ?_ ?_⟩
    · rintro i acc H12 N N0 hi b12 hacc ⟨hal, st12, hI⟩ hN hN0
      refine gnE ⟨rfl, ?_⟩
      obtain ⟨x0, y0, z0, hst11⟩ := id st11
      refine ⟨_, rfl, _, rfl, _, rfl, d, sa, l, xs, ws, rfl, st12, b12 _ _ hl11 lsa, lsa, Paired.mapP hP11 fun _ _ z => z.but hst11 b12, d2, hw, hso, fun y H13 b13 st13 hW13 => ?_⟩
      have Dsa : D ≠ sa := fun z => st11.ne (by rw [← z]; exact hD)
      have hacc13 := b13 _ _ hacc Dsa
      refine hN _ _ b13 fun H14 b14 _ => ⟨by rw [List.length_append, hal]; rfl, ?_, fun z hz => ?_⟩
      · obtain ⟨x, y, z, h⟩ := st13
        exact ⟨x, y, z, b14 _ _ h Dsa.symm⟩
      · rcases List.mem_append.mp hz with hz | hz
        · exact WTD.but (S := fun D' => D' = D) rfl hacc13 b14 ((hI z hz).butS st12 b13)
        · rw [List.mem_singleton.mp hz]
          exact WTD.but (S := fun D' => D' = D) rfl hacc13 b14 (hW13.mono fun D' h => by rw [show D' = D from h, hacc]; exact fun z => by cases z)
    · rintro acc H12 b12 hacc _ ⟨hal, st12, hI⟩
      obtain ⟨x0, y0, z0, hst11⟩ := id st11
      have Dsa : D ≠ sa := fun z => st11.ne (by rw [← z]; exact hD)
      have hA12 := hA11.but st11 b12
      have hl12 := b12 _ _ hl11 lsa
      have hP12 := Paired.mapP hP11 fun _ _ z => z.but hst11 b12
      have hrl12 := b12 _ _ hrl11 (quads_ne st11 hrl11 hQ11)
      have hQ12 := Paired.mapP hQ11 fun _ _ z => z.but hst11 b12
      have hdl12 := b12 _ _ hdl11 (rep_ne st11 hdl11 hK11)
      have hK12 := Paired.mapP hK11 fun _ _ z => z.but hst11 b12
      have hI12 : ∀ y ∈ acc, WT d H12 y := fun y hy => (hI y hy).wt
      have e12 : Same H H12 := same_but (Same.refl H) hsaH e11 b12
      clear hI hQ11 hP11 hA11 hK11 hdl11 hrl11 hl11 hst11 b12 st11 e11
      -- all weathers
      refine nxE (seq_via (fun σ' H13 => ∃ wl ys, σ' = [some (.ref a), some (.int (0 + (j : Int))), some (.ref sa), some (.bl g), some (.int (d : Int)), some (.ref l), some (.ref rl), some (.ref p), some (.ref dl), some (.ref q), v10, some (.ref wl), v12, v13, v14, v15] ∧ Same H12 H13 ∧ H13 wl = some (.lst ys) ∧ wl ≠ sa ∧ 2 ≤ ys.length ∧ ∀ y ∈ ys, WT d H13 y) (fun U hU => ?_) ?_)
      · cases g with
        | true => exact ⟨_, rfl, _, rfl, hU _ _ ⟨D, acc, rfl, Same.refl _, hacc, Dsa, by omega, hI12⟩⟩
        | false =>
          refine ⟨_, rfl, _, rfl, _, rfl, _, rfl, _, rfl, d, rl, qs, ws, rfl, hrl12, hQ12, d7 rfl, hw5 rfl, hso, fun al bs H13 hal0 s13 g13 hbl hbs => ?_⟩
          refine ⟨D, al, _, _, rfl, rfl, s13 _ _ hacc, g13, line_of (by omega), fun v hv => ?_⟩
          obtain ⟨s14, g14⟩ := new2 (.lst (acc ++ bs)) hv
          refine hU _ _ ⟨v, acc ++ bs, rfl, s13.trans s14, g14, fun z => (st12.same s13).ne (by rw [← z]; exact hv), by rw [List.length_append]; omega, fun y hy => ?_⟩
          rcases List.mem_append.mp hy with hy | hy
          · exact (hI12 y hy).same (s13.trans s14)
          · exact (hbs y hy).wt.same s14
      · rintro σ13 H13 ⟨wl, ys, rfl, s13, hwl, wsa, hyl, hys⟩
        have hA13 := hA12.same s13
        have hl13 := s13 _ _ hl12
        have hP13 := Paired.mapP hP12 fun _ _ z => z.same s13
        have hdl13 := s13 _ _ hdl12
        have hK13 := Paired.mapP hK12 fun _ _ z => z.same s13
        have st13 := st12.same s13
        have e13 := e12.trans s13
        clear hA12 hl12 hP12 hrl12 hQ12 hdl12 hK12 hI12 st12 s13 e12
        refine ⟨_, rfl, wl, rfl, ⟨_, SqL.of hwl⟩, for_list (K := K) (a := wl) (xs := ys) (fun i σ H' => ∃ v12, σ = [some (.ref a), some (.int (0 + (j : Int))), some (.ref sa), some (.bl g), some (.int (d : Int)), some (.ref l), some (.ref rl), some (.ref p), some (.ref dl), some (.ref q), v10, some (.ref wl), v12, v13, v14, v15] ∧ Same H13 H') ⟨_, rfl, Same.refl _⟩ (fun _ _ _ _ ⟨_, _, z⟩ => SqL.of (z _ _ hwl)) ?_ ?_⟩
        · rintro i x σ H14 hx ⟨v12, rfl, s14⟩
          obtain ⟨wp, W, rfl, hWt, hWl, htot⟩ := hys x (List.mem_of_getElem? hx)
          refine gnE ?_
          exact ⟨_, rfl, _, rfl, _, rfl, _, rfl, d, p, l, wp, xs, ws, W, rfl, hA13.same s14, s14 _ _ hl13, Paired.mapP hP13 fun _ _ z => z.same s14, hWt.same s14, d2, by omega, by omega, hw, hg, fun H15 s15 => ⟨_, rfl, _, rfl, s14.trans s15⟩⟩
        · rintro σ H14 ⟨v12, rfl, s14⟩
          have hA14 := hA13.same s14
          have hl14 := s14 _ _ hl13
          have hP14 := Paired.mapP hP13 fun _ _ z => z.same s14
          have hdl14 := s14 _ _ hdl13
          have hK14 := Paired.mapP hK13 fun _ _ z => z.same s14
          have st14 := st13.same s14
          have hwl14 := s14 _ _ hwl
          obtain ⟨y, hy⟩ : ∃ y, ys[0]? = some y := ⟨ys[0]'(by omega), List.getElem?_eq_getElem _⟩
          obtain ⟨wp, W, rfl, hWt, hWl, htot⟩ := hys y (List.mem_of_getElem? hy)
          have hWt := hWt.same s14
          have e14 := e13.trans s14
          clear hA13 hl13 hP13 hdl13 hK13 st13 hwl hys s14 e13
          obtain ⟨x0, y0, z0, hst14⟩ := id st14
          -- bent ones
          refine ⟨_, rfl, by decide, by decide, for_upto (lo := 0) (L := 3) rfl (fun i σ H' => ∃ v10, σ = [some (.ref a), some (.int (0 + (j : Int))), some (.ref sa), some (.bl g), some (.int (d : Int)), some (.ref l), some (.ref rl), some (.ref p), some (.ref dl), some (.ref q), v10, some (.ref wl), v12, v13, v14, v15] ∧ But sa H14 H' ∧ Stk H' sa) ⟨_, rfl, But.refl _ _, st14⟩ ?_ ?_⟩
          · rintro i σ H15 hi ⟨v10, rfl, b15, st15⟩
            refine gnE ?_
            refine ⟨_, rfl, _, rfl, _, rfl, _, rfl, _, rfl, wl, ys, _, _, rfl, rfl, SqL.of (b15 _ _ hwl14 wsa), at_of (j := 0) rfl hy, sa, wp, W, rfl, st15, hWt.but st14 b15, by omega, by omega, htot, fun bp W' H16 b16 st16 hW16 hl16 ht16 => ?_⟩
            have b := b15.trans b16
            exact ⟨d, p, l, bp, xs, ws, W', rfl, hA14.but st14 b, b _ _ hl14 lsa, Paired.mapP hP14 fun _ _ z => z.but hst14 b, hW16, d2, hl16, ht16, hw, hg, fun H17 s17 => ⟨_, rfl, _, rfl, b.trans (But.of s17), st16.same s17⟩⟩
          · rintro σ H15 ⟨v10, rfl, b15, st15⟩
            have hA15 := hA14.but st14 b15
            -- once more
            refine ⟨_, rfl, d, p, ws.map canR, rfl, hA15, by rw [List.length_map]; exact hw, d2, hg, fun _ q2 zs2 H16 hq2 s16 g16 hK16 => ?_, fun n hb => (no_bad hb).elim⟩
            have hdl16 := s16 _ _ (b15 _ _ hdl14 (rep_ne st14 hdl14 hK14))
            have hKd16 := Paired.mapP hK14 fun _ _ z => (z.but hst14 b15).same s16
            refine ⟨_, rfl, .ref q2, .ref dl, rfl, mt_up (mt_pairs (ws := keysL (tabS ws) d) (keysL_1000 d2) g16 hdl16 (by rw [tabS_R]; exact hK16) hKd16), fun H17 s17 => ⟨_, rfl, ?_⟩⟩
            have s15 := s16.trans s17
            have b17 := b15.trans (But.of s15)
            have st17 := st15.same s15
            have e17 : Same H H17 := same_but (Same.refl H) hsaH e14 b17
            have hl17 := b17 _ _ hl14 lsa
            have hP17 := Paired.mapP hP14 fun _ _ z => z.but hst14 b17
            have hxl : xs.length = ws.length := Paired.length hP14
            -- other rains
            refine ⟨_, rfl, _, _, rfl, .inl (SqL.of hl17), _, _, rfl, rfl, _, rfl, ite2 (fun c => ?_) (fun c => ?_)⟩
            · have c := of_decide_eq_true c
              refine ⟨_, rfl, _, rfl, sa, l, xs, ws, rfl, st17, hl17, lsa, hP17, by omega, hw, hg, fun t o os rs n H18 b18 st18 ht18 ho18 hQ18 hrs18 hg18 hB18 => ⟨t, _, rfl, SqT.of ht18, rfl, _, _, rfl, _, _, rfl, rfl, ?_⟩⟩
              have b118 := b17.trans b18
              refine ⟨_, rfl, _, rfl, made ho18 hQ18 (by omega) (by omega) hrs18 hg18 fun bp H19 hbp s19 hA19 => ?_⟩
              have nob : OneCan rs → False := fun h => by
                obtain ⟨r, h1, h2, h3⟩ := hB18
                exact h3 (h r (List.mem_of_getElem? h1))
              refine ⟨_, rfl, d, bp, rs, rfl, hA19, hrs18, d2, hg18, fun h => (nob h).elim, fun m hm r H20 s20 hR20 => ?_⟩
              obtain rfl := bad_uniq hB18 hm
              refine ⟨_, rfl, (by show 2 ≤ sizeLine; decide), fun t1 h1 => ⟨(by show 1 ≤ sizeLine; decide), fun l1 h2 => ⟨(by show 2 ≤ sizeLine; decide), fun d1 h3 => ?_⟩⟩⟩
              obtain ⟨s21, g21⟩ := new2 (.tup [.str "BadSky", .int ((n : Int) + 1)]) h1
              obtain ⟨s22, g22⟩ := new2 (.lst [V.ref t1]) h2
              obtain ⟨s23, g23⟩ := new2 (.tup [.str "raised", .ref l1]) h3
              have sr := s21.trans (s22.trans s23)
              have hR23 := hR20.same sr
              refine ne_rsd (by decide +kernel) hR23 ⟨l1, t1, g23, s23 _ _ g22, s23 _ _ (s22 _ _ g21)⟩ ⟨_, rfl, ?_⟩
              have s1923 := s20.trans sr
              have b123 := (b118.trans (But.of s19)).trans (But.of s1923)
              have st23 := (st18.same s19).same s1923
              generalize upd (upd (upd H20 t1 (.tup [.str "BadSky", .int ((n : Int) + 1)])) l1 (.lst [V.ref t1])) d1 (.tup [.str "raised", .ref l1]) = H23 at s1923 b123 st23 ⊢
              refine ⟨_, rfl, _, rfl, _, rfl, wl, ys, _, _, rfl, rfl, SqL.of (b123 _ _ hwl14 wsa), at_of (j := 0) rfl hy, sa, wp, W, rfl, st23, hWt.but st14 b123, by omega, by omega, htot, fun bw W' H24 b24 st24 hW24 hl24 ht24 => ?_⟩
              refine ⟨d, bp, bw, rs, W', rfl, (hA19.same s1923).but st23 b24, hW24, d2, by omega, hrs18, hg18, by omega, fun m hm r H25 s25 hR25 => ?_, fun h => (nob h).elim, fun h => (nob h).elim⟩
              obtain rfl := bad_uniq hB18 hm
              refine ⟨_, rfl, (by show 2 ≤ sizeLine; decide), fun t1 h1 => ⟨(by show 1 ≤ sizeLine; decide), fun l1 h2 => ⟨(by show 2 ≤ sizeLine; decide), fun d1 h3 => ?_⟩⟩⟩
              obtain ⟨s26, g26⟩ := new2 (.tup [.str "BadSky", .int ((n : Int) + 1)]) h1
              obtain ⟨s27, g27⟩ := new2 (.lst [V.ref t1]) h2
              obtain ⟨s28, g28⟩ := new2 (.tup [.str "raised", .ref l1]) h3
              have sr' := s26.trans (s27.trans s28)
              have hR28 := hR25.same sr'
              refine ne_rsd (by decide +kernel) hR28 ⟨l1, t1, g28, s28 _ _ g27, s28 _ _ (s27 _ _ g26)⟩ ⟨_, rfl, ?_⟩
              exact again _ _ _ _ _ _ _ _ _ _ _ _ _ _ _ (same_but (Same.refl H) hsaH e14 ((b123.trans b24).trans (But.of (s25.trans sr'))))
            · exact again _ _ _ _ _ _ _ _ _ _ _ _ _ _ _ e17
end
end K26
end
section
set_option maxRecDepth 100000
set_option maxHeartbeats 0
namespace K26
open PySem PySem.Spec PyProof.Rows L2
theorem law_at {w : World} {h : Heap} {mg : Str → Option Value} {fa : Addr} (Y : hk.says w h) (G : h.Ns mainGlobals mg) (hmg : mg ("law" : Str) = some (.ref fa)) :
    ∃ K : PySem.W.Frag, K.In h ∧ LamX.LawAtG PySem.Challenge.rw_seenenough_k26_key_and_tight_stretches w K 12 63 "script" mg fa h := by
  obtain ⟨K, KX, c⟩ := Y
  have T : Txt w K mg := ⟨h, KX, G, c⟩
  obtain ⟨f, fd, F, g⟩ := f_law T
  have e := hmg.symm.trans g
  cases e
  have B := F.bindsA (ps := ["script"]) (fun _ _ _ _ _ _ us hl => match us, hl with | [_], _ => rfl)
  refine ⟨K, KX, fd, tf.map (He.cT K), spLaw K, fun p hp => ?_, fun p hp => ?_, fun p hp => ?_, fun s u => B s [u] rfl, fun H a ns hl hH hS => ⟨a, ns, rfl, hS, hl, fun _ => rfl⟩, fun base _ _ TB => fn_law T F⟩
  · obtain ⟨d, hd, rfl⟩ := List.mem_map.mp hp
    exact c.empty d hd
  · obtain ⟨d, hd, rfl⟩ := List.mem_map.mp hp
    exact c.out d hd
  · obtain ⟨d, hd, rfl⟩ := List.mem_map.mp hp
    exact PySem.W.codeHd_of_K KX (c.hd d hd)
end K26
open PySem PySem.W PySem.Calls PyProof.Rows
theorem PySem.Challenge.cw_seenenough_k26_key_and_tight_stretches_holds : PySem.Challenge.rw_seenenough_k26_key_and_tight_stretches.Holds := by
  w_on; o_law
  refine HandSHeadRun.head_any (r := OpenLaw.row PySem.Challenge.rw_seenenough_k26_key_and_tight_stretches) (q := view (OpenLaw.row PySem.Challenge.rw_seenenough_k26_key_and_tight_stretches).prog [56]) (H := K26.hk) (ob := K26.ob) (M := 20000) (loose := K26.loose1 ++ K26.loose2) (d := HandSHeadRun.topDef (OpenLaw.row PySem.Challenge.rw_seenenough_k26_key_and_tight_stretches).prog 56) (kwd := []) K26.ob_eq
    (by kernel_rfl) (fun s => by kernel_rfl) K26.run (by kernel_rfl) (by kernel_rfl) (by kernel_rfl) (by rfl) (by first | assumption | decide +kernel) (by decide +kernel) ⟨rfl, rfl, rfl, rfl, rfl, by decide +kernel⟩ ?hw ?hc
  case hw => w_witness2
  case hc =>
    refine LamX.walk_ofG (l := PySem.Challenge.rw_seenenough_k26_key_and_tight_stretches) (n := 63) (k := 12) (x := "script") rfl (by decide) (by kernel_rfl) ⟨by decide, by decide, by decide⟩ rfl ?F
    intro w mg fa h Y G hmg0
    have hmg : mg ("law" : PySem.Str) = some (.ref fa) := by
      have e : (HandSHeadRun.topDef (OpenLaw.row PySem.Challenge.rw_seenenough_k26_key_and_tight_stretches).prog 56).name = ("law" : PySem.Str) := by kernel_rfl
      rw [← e]
      exact hmg0
    exact K26.law_at Y G hmg
end
