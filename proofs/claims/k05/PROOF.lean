import PyProof.Rows.All
import Wide.All
import OpenK.AllK
import Wide.FinOn
import KE.GoesEnumKw
import KE.KStateDown
import HandS.ForMost
import HandS.Exc
import HandS.ExcInit
import HandS.ExcIs
import HandS.ExcField
import HandS.TryOnly
import HandS.TryMany
import HandS.Lambda
import HandS.HotCalls
import HandS.IsInst
import HandS.SortKw
import HandS.WordsExc
import HandS.Wide
import HandS.Defaults
import HandS.HeadHook4
import HandS.HeadWalk
import HandS.RaiseMore
import HandS.ClsMeth
import KE.KExcIs
import HandS.Head0
import HandS.Head1
import HandS.Head2
import HandS.Steps
import HandS.Conv
import HandS.EndTab
import HandS.DictComp
import HandS.TupSets
import HandS.TupLen
import HandS.WordsDict
import HandS.Small
import PySem.Challenge.RW_seenenough_k05_dues_and_catches
set_option Elab.async false
set_option linter.all false
section
set_option maxRecDepth 100000
set_option maxHeartbeats 4000000
namespace L2
open PySem PySem.Spec PyProof.Rows
/-! ### x[i] op= e over a list -/
theorem get_list {X : Cx} : PGet X (rIxL X.K) := by
  intro pins s σ H o i ov iv Q I rx ry h
  obtain ⟨p, xs, k, z, rfl, rfl, hq, he, q⟩ := h
  cases rx
  obtain ⟨t, rfl⟩ := ry
  obtain ⟨its, r, pl, hz⟩ := I.list hq
  obtain ⟨j, h1, h2, h3, h4, h5⟩ := atI_get he
  obtain ⟨w, ew, rw'⟩ := r.get h2
  have hl := r.length
  have hn := line63
  have fin : EP X pins σ Q w s := ⟨z, H, I, rw', q⟩
  by_cases h0 : 0 ≤ k
  · have hj : k.toNat = j := by
      rw [seqIndex_of h0 h5] at h1
      exact Option.some.inj h1
    exact wpAny_getItem_list pl.isList h0 (by omega) (by rw [hj]; simpa using ew) fin
  · have hj : (k + (its.toArray.size : Int)).toNat = j := by
      rw [seqIndex_neg (by omega) h4] at h1
      rw [List.size_toArray, ← hl]
      exact Option.some.inj h1
    exact wpAny_getItem_list_neg pl.isList (by omega) (by rw [List.size_toArray] <;> omega) (by omega) (by rw [hj]; simpa using ew) fin
/-! ### a, b = a list or a tuple -/
def gSeq (K : PySem.W.Frag) (n : Nat) (t : TGs) : TG := fun v σ H Q => gTup K n t v σ H Q ∨ gLst K n t v σ H Q
theorem pg_seq {X : Cx} {pos : Pos} {es : List Expr} {k : Nat} {t : TGs} {n : Nat} (hc : X.calm = true) (h : PGs X es t)
    (hn : (assignEach es X.env).length = n := by rfl) (hst : (assignEach es X.env).findIdx? (·.1) = none := by rfl) : PG X (.Tuple es k pos) (gSeq X.K n t) := by
  refine ⟨fun pins s σ H v u Q I r hw => ?_⟩
  rcases hw with hw | hw
  · exact (pg_tup hc h hn hst).run pins s σ H v u Q I r hw
  · exact (pg_lst hc h hn hst).run pins s σ H v u Q I r hw
/-! ### enumerate(list, start=k) -/
def IteS (K : PySem.W.Frag) (a : Addr) (k : Int) : It :=
  ⟨fun i H => ∃ (xs : List V) (x : V), SqL K H a xs ∧ xs[i]? = some x, fun i H v H' => ∃ T x, v = .ref T ∧ H T = none ∧ H' = upd H T (.tup [.int (k + (i : Nat)), x]) ∧ ∀ xs, SqL K H a xs → xs[i]? = some x, fun i H => ∃ xs : List V, SqL K H a xs ∧ xs.length ≤ i⟩
theorem turn_enumS {P : Program} {w : World} {K : PySem.W.Frag} {elts : List Expr} {kk : Nat} {tpos : Pos} (a e it : Addr) (k : Int) :
    Turn P w K (.Tuple elts kk tpos) (IteS K a k) [e, it] e (fun i h => (∃ old, IsEnum h e it (k + ((i : Nat) : Int)) old) ∧ h.IsListIter it a i ∧ e ≠ it) where
  mem := by simp
  obj := fun i h st b hb => by
    obtain ⟨⟨old, he⟩, ⟨o, ho, hc, hd⟩, _⟩ := st
    have e' : b = e ∨ b = it := by simpa using hb
    rcases e' with z | z
    · rw [z]; exact ⟨_, he, fun v q => nomatch q⟩
    · rw [z]; exact ⟨o, ho, fun v q => by rw [hd] at q; cases q⟩
  keep := fun i h h' st k => let ⟨⟨old, he⟩, hi, hne⟩ := st; ⟨⟨old, k e (by simp) _ he⟩, hi.at fun o q => k it (by simp) o q, hne⟩
  item := by
    intro X hP hw hK hc i pins s σ H E I hf st hg
    subst hP hw hK
    obtain ⟨⟨old, he⟩, hit, hne⟩ := st
    obtain ⟨xs, x, hq, hx⟩ := hg
    obtain ⟨its, rv, p, hz⟩ := I.list hq
    obtain ⟨u, hu, ru⟩ := rv.get hx
    have hel : e < s.heap.objs.size := Heap.lt_size he
    have hil : it < s.heap.objs.size := by obtain ⟨_, q, _⟩ := hit; exact Heap.lt_size q
    have hal : a ≠ it := fun z => by
      obtain ⟨o1, e1, c1, _⟩ := id hit
      obtain ⟨o2, e2, c2, _⟩ := id p.isList
      rw [z, e1] at e2
      have eo := Option.some.inj e2
      rw [eo, c2] at c1
      exact absurd (Value.type.inj c1) (by decide)
    have hea : e ∉ [it, a] := fun z => by
      rcases List.mem_cons.mp z with z | z
      · exact hne z
      · have z' := List.mem_singleton.mp z
        obtain ⟨o2, e2, c2, _⟩ := id p.isList
        have he' : s.heap.get? e = some _ := he
        rw [z', e2] at he'
        rw [Option.some.inj he'] at c2
        exact absurd (Value.type.inj c2) (by decide)
    refine wpAny_pyNext_enum_itemC (Draws.list (A := X.A.in1) (I.ok.hd hc) it a hal its.toArray) he ⟨hit, p.isList⟩ (by have := (List.getElem?_eq_some_iff.mp hu).1; simpa using this) hne hea fun u' h' tk hP ho hst' hT hsz hk => ?_
    obtain rfl : u' = u := by
      have hP' : its.toArray[i]? = some u' := hP
      rw [List.getElem?_toArray, hu] at hP'
      exact (Option.some.inj hP').symm
    obtain ⟨hit', _⟩ := hst'
    refine ⟨_, rfl, wpAny_letOwnedTupleGo_enum (s := { s with heap := h', toks := tk + 1 }) ho fun h'' he' sb => ?_⟩
    have hT2 : h''.get? s.heap.objs.size = some { cls := .type "tuple", data := .seq #[.int (k + i) tk, u'] } := (sb.2 _ (Nat.ne_of_gt hel)).trans hT
    have new : ObjOk X.prog X.w (upd H s.heap.objs.size (.tup [.int (k + (i : Nat)), x])) h'' s.heap.objs.size (.tup [.int (k + (i : Nat)), x]) :=
      ⟨by show 2 ≤ sizeLine; decide, [.int (k + i) tk, u'], .cons ⟨_, rfl⟩ (.cons ru .nil), ⟨_, hT2, rfl, _, rfl⟩⟩
    have I1 : Inv X pins σ (upd H s.heap.objs.size (.tup [.int (k + (i : Nat)), x])) { s with heap := h'', toks := tk + 1 } :=
      I.turnedNew (ch := [e, it]) (fun b ob hb q => (sb.2 b (fun z => hb (by simp [z]))).trans (hk b ob (fun z => hb (by simp [z])) (fun z => hb (by simp [z])) q)) hf (Nat.le_refl _) new
    refine ⟨.ref s.heap.objs.size, _, I1, rfl, ⟨_, x, rfl, I.hok.fresh (Nat.le_refl _), rfl, fun ys hy => by rw [I.list_inj hy hq]; exact hx⟩, ⟨⟨u', ?_⟩, hit'.at fun o q => (sb.2 it (Ne.symm hne)).trans q, hne⟩, fun b hb => ?_⟩
    · have e1 : k + ((i + 1 : Nat) : Int) = (k + (i : Int)) + 1 := by omega
      rw [e1]; exact he'
    · have hb' : b < s.heap.objs.size := by
        have e' : b = e ∨ b = it := by simpa using hb
        rcases e' with z | z
        · rw [z]; exact hel
        · rw [z]; exact hil
      rw [upd_ne (Nat.ne_of_lt hb')]
      exact (hf b hb).1
  done := by
    intro X hP hw hK hc i pins s σ H E I hf st hg
    subst hP hw hK
    obtain ⟨⟨old, he⟩, hit, hne⟩ := st
    obtain ⟨xs, hq, hx⟩ := hg
    obtain ⟨its, rv, p, hz⟩ := I.list hq
    obtain ⟨f0, f1, f2, f3, f4, f5⟩ := hf it (by simp)
    have hl := rv.length
    have hT : s.TypeIs (.ref e) "enumerate" := ⟨_, he, rfl⟩
    unfold pyNext
    refine wpAny_bind (wpAny_attempt (wpAny_callSpecial?_slot (name := Str.ofString "__next__") hT F.slot_enumerate_next
      (wpAny_call_entry F.slot_enumerate_next hT F.entry_enumerate_next ?_ (F.args_enumerate_next_1 _))))
    show wpAny _ _ (field (.ref e) 2 >>= _) _ _ _
    refine wpAny_bind (wpAny_field he rfl (x := .ref it) rfl ?_)
    refine wpAny_bind (wpAny_nextOf_list_end (show X.A.in1.handled = none from I.ok.hd hc) hit p.isList (by simp; omega) fun h' x eb hx' => ?_)
    obtain ⟨o, ho, hc'⟩ := hx'
    refine wpAny_bind (wpAny_isInstance (T := "StopIteration") (b := true) ⟨o, ho, hc'⟩ isSubtype_stop ?_)
    exact wpAny_pure ⟨rfl, I.turned (t' := s.toks) (fun b o hb q => eb b o hb q) f0 f1 f3 f4 f5⟩
  self := fun A i s Q E st h => let ⟨⟨_, he⟩, _⟩ := st; wpAny_pyIter_enum he h
def iEnumS (K : PySem.W.Frag) (ta tk : TA) : TI := fun σ H R => ta σ H fun vs H1 => tk σ H1 fun zs H2 => ∃ a xs k, vs = [.ref a] ∧ zs = [.int k] ∧ -(2 ^ 63) ≤ k ∧ k < 2 ^ 63 ∧ SqL K H2 a xs ∧ R (IteS K a k) H2
theorem callWith_typeK {M : Model} {A : Around} {E : Value → Shared → Prop} {s : Shared} {env : Env} {pos : Pos} {T : String} {e : Expr} {rest : List Expr} {kws : List Keyword} {Q : Value → Shared → Prop}
    (h : wpAny M A (spliced (backTo pos (starEach (e :: rest) env))) (fun vs s₁ => wpAny M A (evalAll ((backToKw pos (keywordEach kws env)).map (·.2)))
      (fun kvs s₂ => wpAny M A (call (.type T) vs (((backToKw pos (keywordEach kws env)).filterMap (·.1)).zip kvs)) Q E s₂) E s₁) E s)
    (he : backTo pos (starEach (e :: rest) env) = (false, eval e env) :: backTo pos (starEach rest env) := by rfl)
    (hplain : (backTo pos (starEach (e :: rest) env)).any (·.1) = false := by rfl)
    (hall : (backToKw pos (keywordEach kws env)).all (·.1.isSome) = true := by rfl)
    (hkw : (backToKw pos (keywordEach kws env)).any (·.1.isNone) = false := by rfl) :
    wpAny M A (callWith pos (.type T) [] (backTo pos (starEach (e :: rest) env)) (backToKw pos (keywordEach kws env))) Q E s := by
  have h2 : wpAny M A (evalArgs (.type T) true (backTo pos (starEach (e :: rest) env)) (backToKw pos (keywordEach kws env))) (fun a s₁ => wpAny M A (call (.type T) ([] ++ a.pos) a.kw) Q E s₁) E s := by
    rw [he] at h ⊢
    exact PyProof.Rows.evalArgs_kwB hall h
  unfold callWith
  refine wpAny_bind (wpAny_holding (wpAny_mono h2 (fun a s₁ h₁ => wpAny_bind (wpAny_standAt ?_)) fun _ _ x => x))
  simp only [hplain, hkw, Bool.or_false]
  refine wpAny_bind (wpAny_pure ?_)
  exact wpAny_bind (wpAny_mono h₁ (fun r s₂ hr => wpAny_bind (wpAny_holding (wpAny_point (wpAny_pure hr)))) fun _ _ x => x)
theorem pi_enumS {X : Cx} {e e2 : Expr} {ta tk : TA} {p pos tpos kpos : Pos} {elts : List Expr} {kk : Nat} (hg : Gl X "enumerate") (hm : X.mg "enumerate" = none) (ha : PA X [e] ta) (hk : PK X [⟨some (Str.ofString "start"), e2, kpos⟩] tk) (hs : starEach [e] X.env = [(false, eval e X.env)] := by rfl) :
    PI X (.Tuple elts kk tpos) (.Call (.Name "enumerate" p) [e] [⟨some (Str.ofString "start"), e2, kpos⟩] pos) (iEnumS X.K ta tk) := by
  refine ⟨fun pins s σ H R I h => ?_⟩
  refine wpAny_Call_Name_kw (ld_blt I hg hm boot_enumerate ?_)
  refine callWith_typeK (thn (ha.run pos pins s σ H _ I h) fun us s1 ⟨vs, H1, I1, r1, q1⟩ => thn (hk.run pos pins s1 σ H1 _ I1 q1) fun ws s2 ⟨zs, H2, I2, r2, q2⟩ => ?_) (by rw [hs]; rfl) (by rw [hs]; rfl)
  obtain ⟨a, xs, k, rfl, rfl, hk0, hk1, hq, q⟩ := q2
  obtain rfl := Vals.ref1 r1
  obtain ⟨w1, rfl, t, rfl⟩ := vals1 r2
  obtain ⟨its, rv, p', hz⟩ := I2.list hq
  show wpAny _ _ (call (.type "enumerate") [.ref a] [(Str.ofString "start", .int k t)]) _ _ _
  refine enum_begins_start (begins_list a its.toArray) p'.isList hk0 hk1 fun h' he hit hsz hkp => wpAny_pyIter_enum he ?_
  have I3 : Inv X pins σ H2 { s2 with heap := h' } := I2.kept (t' := s2.toks) hkp
  have he2 : IsEnum h' (s2.heap.objs.size + 1) s2.heap.objs.size (k + ((0 : Nat) : Int)) .none := by
    have : k + ((0 : Nat) : Int) = k := by omega
    rw [this]; exact he
  refine ⟨s2.heap.objs.size + 1, [s2.heap.objs.size + 1, s2.heap.objs.size], _, _, H2, rfl, I3, turn_enumS a (s2.heap.objs.size + 1) s2.heap.objs.size k, ⟨⟨.none, he2⟩, ⟨_, hit, rfl, rfl⟩, Nat.succ_ne_self _⟩, fun b hb => ?_, q⟩
  have e' : b = s2.heap.objs.size + 1 ∨ b = s2.heap.objs.size := by simpa using hb
  have hle : s2.heap.objs.size ≤ b := by
    rcases e' with z | z
    · rw [z]; exact Nat.le_add_right _ _
    · rw [z]; exact Nat.le_refl _
  exact I2.fpOk hle (I2.hok.fresh hle)
end L2
end
section
set_option maxRecDepth 100000
set_option maxHeartbeats 4000000
namespace L2
open PySem PySem.Spec PyProof.Rows
/-! ### Base.__init__(self, ..), Base an own class that has no __init__ of its own and descends from ValueError -/
structure SeTxt (K : PySem.W.Frag) (CS : Addr) : Prop where
  rd : PySem.W.readsIn K CS (.type "type") = true
  ga : PySem.W.specialIn K (.ref CS) "__getattribute__" = some (some (.builtin "type.__getattribute__"))
  at_ : PySem.W.findCls K (.ref CS) (.type "type") "__init__" = some (.val (.builtin "ValueError.__init__"))
def seB (K : PySem.W.Frag) (CS : Addr) : Bool := PySem.W.readsIn K CS (.type "type") && (decide (PySem.W.specialIn K (.ref CS) "__getattribute__" = some (some (.builtin "type.__getattribute__"))) && (match PySem.W.findCls K (.ref CS) (.type "type") "__init__" with
  | some (.val v) => decide (v = .builtin "ValueError.__init__")
  | _ => false))
theorem seB_ok {K : PySem.W.Frag} {CS : Addr} (h : seB K CS = true) : SeTxt K CS := by
  obtain ⟨h1, h2⟩ := Bool.and_eq_true_iff.mp h
  obtain ⟨h3, h4⟩ := Bool.and_eq_true_iff.mp h2
  refine ⟨h1, of_decide_eq_true h3, ?_⟩
  split at h4
  · rename_i v e
    rw [e, of_decide_eq_true h4]
  · cases h4
section
variable {X : Cx} {e : Expr} {es : List Expr} {ta : TA} {x : Str} {p1 p2 pos : Pos} {CS : Addr}
theorem pe_seinit {pl : Sem Bool} (T : SeTxt X.K CS) (hg : Gl X x) (hm : X.mg x = some (.ref CS)) (ha : PA X (e :: es) ta)
    (hdb : (x == ("__debug__" : Str)) = false := by decide)
    (hc : eval (.Call (.Attribute (.Name x p1) "__init__" p2) (e :: es) [] pos) X.env = (do
      let ov ← eval (.Name x p1) X.env
      standAt p2.atName
      let (f, first) ← holding [ov] (getMethod ov "__init__" pl)
      callWith pos f first (backTo pos (starEach (e :: es) X.env)) (backToKw pos (keywordEach [] X.env))) := by rfl)
    (he : starEach (e :: es) X.env = (false, eval e X.env) :: starEach es X.env := by rfl) (hpl : (backTo pos (starEach es X.env)).any (·.1) = false := by rfl) :
    PE X (.Call (.Attribute (.Name x p1) "__init__" p2) (e :: es) [] pos) (tVeI X.K ta) := by
  refine ⟨fun pins s σ H Q I h => ?_⟩
  refine PySem.W.methodCall_KW (ld_glob I hg hm ?_ hdb) hc
  obtain ⟨m, fr⟩ := I.fr
  refine PySem.W.method_of_cls fr I.ok.mod.kin T.ga ?_
  refine PySem.W.cls_value I.kIn T.rd T.at_ (by decide +kernel) ?_
  show wpAny _ _ (callWith pos (Value.builtin "ValueError.__init__") [] (backTo pos (starEach (e :: es) X.env)) []) _ _ _
  refine PyProof.Rows.callWith_method1 (thn (ha.run pos pins _ σ H _ (I.tok _) h) fun us s1 ⟨vs, H1, I1, r1, a, C, ws, ev, hl, T, ea, q⟩ => ?_) he hpl
  subst ev
  cases r1 with
  | @cons _ u0 _ ur ra rw' =>
    obtain rfl : u0 = Value.ref a := ra
    have hlen : ur.length ≤ sizeLine := by
      rw [← Paired.length rw', sizeLine_eq]
      omega
    exact oinit_ok T I1 ea hlen fun s' J => ⟨.non, H1, J, rfl, q⟩
end
end L2
end
section
set_option maxRecDepth 100000
set_option maxHeartbeats 4000000
namespace L2
open PySem PySem.Spec PyProof.Rows
/-! ### the exception that a context bears: its fields, its class -/
section
variable {X : Cx} {p : Addr × Obj} {cls : Value} {d : Option Addr} {C D : Addr} {n : Str} {e : Expr} {te : TE} {pos : Pos}
theorem pe_xfG (hp : p ∈ X.pn) (T : XfC X.K C) (hno : PySem.W.findIn X.K (.ref C) n = some none) (hz : Zc cls d p.2) (hf : ∃ vs, p.2.data = .fields vs) (he : PE X e te)
    (hb : attributeBase e n X.env (eval e X.env) = eval e X.env := by rfl) : PE X (.Attribute e n pos) (tXf p.1 cls d C n te) := by
  constructor
  intro pins s σ H Q I h
  refine attr_of hb (thn (he.run pins s σ H _ I h) ?_)
  rintro u s1 ⟨x, H1, I1, rx, rfl, rfl, dd, fs, v, rfl, ea, l, q⟩
  obtain rfl : u = Value.ref p.1 := rx
  have hget := (I1.pin p (List.mem_append_left _ hp)).1
  obtain ⟨vs, hdat⟩ := hf
  have hobj : ObjOk X.prog X.w H1 s1.heap dd (.xd fs) := I1.hok dd _ ea
  obtain ⟨mA, hns, hrel⟩ := hobj
  obtain ⟨od, hod, hlook⟩ := lookIn_ns hns
  obtain ⟨u2, hu2, ru2⟩ := RelO.some_of (v := v) (o := mA n) (by rw [← l]; exact hrel n)
  have at_ : PySem.W.InstAt s1.heap p.1 p.2 C (some od) := ⟨hget, hz.1, by unfold PySem.W.notCls; rw [hdat] <;> rfl, by rw [hz.2]; exact hod⟩
  exact HandSPX.exc_get I1.kIn at_ T.ga T.gg T.exC (PySem.W.findObj_own T.hdC hno rfl (by rw [hlook, hu2])) (handed_of ru2) ⟨v, H1, I1.tok _, ru2, q⟩
/-- isinstance(e, c), e the exception at p, of the class at D, its own dict at d -/
def rIsD (K : PySem.W.Frag) (D a d : Addr) : List V → Hp → VK → Prop := fun xs H Q => ∃ (c : V) (cv : Value) (b : Bool) (fs : List (Str × V)), xs = [.ref a, c] ∧ (∀ u, RelV c u → u = cv) ∧ H d = some (.xd fs) ∧ PySem.W.kitOne K (.ref D) cv = some b ∧ Q (.bl b) H
theorem call_isD {d : Addr} (hp : p ∈ X.pn) (T : ExcC X.K D) (hz : Zc (.ref D) (some d) p.2) (hf : ∃ vs, p.2.data = .fields vs) : CallR X (.builtin "isinstance") (rIsD X.K D p.1 d) := by
  intro pins s σ H xs us Q I r h
  obtain ⟨c, cv, b, fs, rfl, hcv, ed, hkit, q⟩ := h
  obtain ⟨u1, u2, rfl, r1, r2⟩ := vals2 r
  obtain rfl : u1 = Value.ref p.1 := r1
  obtain rfl : u2 = cv := hcv _ r2
  have hget := (I.pin p (List.mem_append_left _ hp)).1
  have hobj : ObjOk X.prog X.w H s.heap d (.xd fs) := I.hok d _ ed
  obtain ⟨mA, hns, hrel⟩ := hobj
  obtain ⟨od, hod, hlook⟩ := lookIn_ns hns
  obtain ⟨vs, hdat⟩ := hf
  have at_ : PySem.W.InstAt s.heap p.1 p.2 D (some od) := ⟨hget, hz.1, by unfold PySem.W.notCls; rw [hdat] <;> rfl, by rw [hz.2]; exact hod⟩
  have hcl : (PySem.W.clsIn X.K D).isSome = true := by
    obtain ⟨cd, hc, _⟩ := PySem.W.any_some T.hd
    rw [hc]; rfl
  exact PySem.W.kia_one (PySem.W.kitx_exc (gt := none) hcl T.hg T.hk T.hs T.ha T.hn T.ht T.hm) I.kIn at_ hkit (fun z => nomatch z) fun tk => ⟨.bl b, H, I.tok tk, rfl, q⟩
end
/-! ### a def that is handed the exception which an except suite holds -/
abbrev SpE := Addr → Value → Option Addr → Sp
structure FnE (P : Program) (w : World) (K : PySem.W.Frag) (mg : Str → Option Value) (base : Heap) (k : Nat) (f : Addr) (fd : FuncData) (ps : List Str) (sp : SpE) : Prop where
  len : ∀ a cls d vs H Q E, sp a cls d vs H Q E → vs.length = ps.length
  run : ∀ (A : Around) (outer : List Env) (s : Shared) (H : Hp) (args : Args) (us : List Value) (vs : List V) (Q : VK) (p : Addr × Obj) (cls : Value) (d : Option Addr), L2H.RoomH k A → Zc cls d p.2 → (∃ vs, p.2.data = .fields vs) → L2H.PinOk outer H s p →
    Env0 P w K mg base A outer s H → BindsTo s fd args (ps.zip us) → Vals vs us → sp p.1 cls d vs H Q E0 → codeAny (model P w) A (.call (.ref f) args) (CR CX0 outer P w H s Q E0) s
theorem fnE_of {P : Program} {w : World} {K : PySem.W.Frag} {mg : Str → Option Value} {base : Heap} {k : Nat} {f : Addr} {name qual : Str} {params : Arguments} {body : List Stmt} {scope : Scope} {dV kV doc pm cdv ct oc : Value} {an od : Option Addr}
    {osl : Array (Option Value)} {N ps : List Str} {sp : SpE} (lk : K.lookup f = some ⟨oc, od, .func (PySem.W.fnOf name qual params body scope dV kV doc pm an cdv ct), osl⟩) (hcd : PySem.W.codeIn K cdv qual = true) (S : FnScope N ps scope)
    (len : ∀ a cls d vs H Q E, sp a cls d vs H Q E → vs.length = ps.length)
    (hbody : ∀ (A : Around) (outer : List Env) (s : Shared) (H : Hp) (vs : List V) (Q : VK) (p : Addr × Obj) (cls : Value) (d : Option Addr), L2H.RoomH k (A.deeper (envOfC qual scope s.heap.objs.size f cdv)) → Zc cls d p.2 → (∃ vs, p.2.data = .fields vs) → sp p.1 cls d vs H Q E0 →
      ∃ t, PSs (L2H.cxH CX0 P w K mg base N qual scope f cdv A outer s H E0 p) body t ∧ t { nx := fun _ H' => Q .non H', rt := Q } (L2.start N vs) H) :
    FnE P w K mg base (k + 1) f (PySem.W.fnOf name qual params body scope dV kV doc pm an cdv ct) ps sp := by
  constructor
  · exact len
  intro A outer s H args us vs Q p cls d hr hz hf hpin e0 hb r hsp
  have hlen := len _ _ _ _ _ _ _ hsp
  have hK : K.In s.heap := e0.mod.kin.keeps fun b o e => (e0.bs b o e).1
  have hLim : s.heap.NoLimit := e0.mod.nolimit.keeps fun b o e => (e0.bs b o e).1
  have hpar : ∀ y ∈ ps.zip us, scope.names.lookup y.1 = some .local ∨ (scope.names.lookup y.1 = some .cell ∧ ((cellsFrom (s.heap.objs.size + 1) scope.names []).lookup y.1).isSome = true) := by
    rintro ⟨n, v⟩ hy
    exact (S.par n (List.of_mem_zip hy).1).imp id fun q => ⟨q, PySem.W.cellsFrom_some _ _ _ (.inl q)⟩
  refine codeAny_call_function hr.depth (hK _ _ lk) rfl S.co S.gen rfl (PySem.W.codeRec_of hK hcd) (hb _ _ _ _ ?_)
  refine wpAny_newFunctionEnv_cells S.kind hpar ?_
  rintro env rfl s1 x
  refine ⟨hLim.keeps x.toInCall.keep, codeAny_func ?_⟩
  obtain ⟨t, ht, hq⟩ := hbody A outer s H vs Q p cls d (hr.deeper _) hz hf hsp
  refine wpAny_mono (ht.run [] s1 (L2.start N vs) H _ (L2H.inv_startH S hpin e0 hlen r x) hq) ?_ fun e s' hs => hs
  intro fl s' hs
  cases fl with
  | ret u =>
    obtain ⟨v, σ', H', J, rv, q⟩ := hs
    exact ⟨v, H', J.os, J.bare, J.base, J.hok, rv, q⟩
  | next =>
    obtain ⟨σ', H', J, q⟩ := hs
    exact ⟨V.non, H', J.os, J.bare, J.base, J.hok, rfl, q⟩
  | brk => exact hs.elim fun _ z => z.elim fun _ z => z.2.elim
  | cont => exact hs.elim fun _ z => z.elim fun _ z => z.2.elim
def tCallE (sp : Sp) (t : TA) : TE := fun σ H Q => t σ H fun vs H1 => sp vs H1 Q E0
theorem pe_callE {X : Cx} {k : Nat} {f : Addr} {fd : FuncData} {ps : List Str} {sp : SpE} {x : Str} {q pos : Pos} {e : Expr} {es : List Expr} {t : TA} {p : Addr × Obj} {cls : Value} {d : Option Addr} (F : FnE X.prog X.w X.K X.mg X.base k f fd ps sp) (hr : L2H.RoomH k X.A)
    (hp : p ∈ X.pn) (hz : Zc cls d p.2) (hf : ∃ vs, p.2.data = .fields vs) (hg : Gl X x) (hm : X.mg x = some (.ref f)) (hk : PySem.W.keepIn X.K (.ref f) = true) (hb : Binds X.K fd ps [])
    (ha : PA X (e :: es) t) (hdb : (x == ("__debug__" : Str)) = false := by decide) (he : starEach (e :: es) X.env = (false, eval e X.env) :: starEach es X.env := by rfl) (hpl : (backTo pos (starEach es X.env)).any (·.1) = false := by rfl) :
    PE X (.Call (.Name x q) (e :: es) [] pos) (tCallE (sp p.1 cls d) t) := by
  constructor
  intro pins s σ H Q I h
  refine wpAny_Call_Name_kw (ld_glob I hg hm ?_ hdb)
  refine PySem.W.callWith_K (h₀ := X.base) I.ok.mod.kin hk (thn (ha.run pos pins s σ H _ I h) ?_) he hpl
  rintro us s1 ⟨vs, H1, I1, r, hsp⟩
  refine ⟨I1.kIn, ?_⟩
  have hlen : us.length = ps.length := by rw [← r.length]; exact F.len _ _ _ _ _ _ _ hsp
  have hbind := hb s1 us I1.kIn (by rw [List.append_nil]; exact hlen)
  rw [List.append_nil] at hbind
  obtain ⟨g1, g2, g3, g4, g5⟩ := I1.pin p (List.mem_append_left _ hp)
  have hpin : L2H.PinOk X.stack H1 s1 p := ⟨g1, g2, fun hm => (List.mem_cons.mp (I1.stkSub p.1 hm)).elim g3 g4, g5⟩
  refine wpAny_call (codeAny_mono (F.run X.A X.stack s1 H1 ⟨us, []⟩ us vs Q p cls d hr hz hf hpin I1.env0 hbind r hsp) ?_)
  intro r s' hq
  cases r with
  | error e => exact False.elim hq
  | ok fl =>
    cases fl with
    | ret u => exact I1.after hq
    | next => exact False.elim hq
    | brk => exact False.elim hq
    | cont => exact False.elim hq
/-! ### a def that asks that no repr is under way -/
structure FnG (P : Program) (w : World) (K : PySem.W.Frag) (mg : Str → Option Value) (base : Heap) (k : Nat) (f : Addr) (fd : FuncData) (ps : List Str) (sp : Sp) : Prop where
  len : ∀ vs H Q E, sp vs H Q E → vs.length = ps.length
  run : ∀ (A : Around) (outer : List Env) (s : Shared) (H : Hp) (args : Args) (us : List Value) (vs : List V) (Q : VK), Room k A → A.guards = some [] → Env0 P w K mg base A outer s H → BindsTo s fd args (ps.zip us) → Vals vs us → sp vs H Q E0 →
    codeAny (model P w) A (.call (.ref f) args) (CR CX0 outer P w H s Q E0) s
theorem fnG_of {P : Program} {w : World} {K : PySem.W.Frag} {mg : Str → Option Value} {base : Heap} {k : Nat} {f : Addr} {name qual : Str} {params : Arguments} {body : List Stmt} {scope : Scope} {dV kV doc pm cdv ct oc : Value} {an od : Option Addr}
    {osl : Array (Option Value)} {N ps : List Str} {sp : Sp} (lk : K.lookup f = some ⟨oc, od, .func (PySem.W.fnOf name qual params body scope dV kV doc pm an cdv ct), osl⟩) (hcd : PySem.W.codeIn K cdv qual = true) (S : FnScope N ps scope)
    (hbs : ∀ (s : Shared) (us : List Value), us.length = ps.length → BindsTo s (PySem.W.fnOf name qual params body scope dV kV doc pm an cdv ct) ⟨us, []⟩ (ps.zip us))
    (len : ∀ vs H Q E, sp vs H Q E → vs.length = ps.length)
    (hbody : ∀ (A : Around) (outer : List Env) (s : Shared) (H : Hp) (vs : List V) (Q : VK), Room k (A.deeper (envOfC qual scope s.heap.objs.size f cdv)) → (A.deeper (envOfC qual scope s.heap.objs.size f cdv)).guards = some [] → sp vs H Q E0 →
      ∃ t, PSs (cxOf CX0 P w K mg base N qual scope f cdv A outer s H E0).nox body t ∧ t { nx := fun _ H' => Q .non H', rt := Q } (L2.start N vs) H) :
    FnG P w K mg base (k + 1) f (PySem.W.fnOf name qual params body scope dV kV doc pm an cdv ct) ps sp := by
  constructor
  · exact len
  intro A outer s H args us vs Q hr hgd e0 hb r hsp
  refine LamX.run_ofS lk hcd S hr e0 hb r (len _ _ _ _ hsp) fun hr' => ?_
  obtain ⟨t, h, q⟩ := hbody A outer s H vs Q hr' (by first | exact hgd | (show A.guards = some []; exact hgd)) hsp
  exact ⟨t, h.nox, q⟩
theorem pe_callG {X : Cx} {k : Nat} {f : Addr} {fd : FuncData} {ps : List Str} {sp : Sp} {x : Str} {q pos : Pos} {e : Expr} {es : List Expr} {t : TA} (F : FnG X.prog X.w X.K X.mg X.base k f fd ps sp) (hr : Room k X.A) (hgd : X.A.guards = some [])
    (hg : Gl X x) (hm : X.mg x = some (.ref f)) (hk : PySem.W.keepIn X.K (.ref f) = true) (hb : Binds X.K fd ps [])
    (ha : PA X (e :: es) t) (hdb : (x == ("__debug__" : Str)) = false := by decide) (he : starEach (e :: es) X.env = (false, eval e X.env) :: starEach es X.env := by rfl) (hpl : (backTo pos (starEach es X.env)).any (·.1) = false := by rfl) :
    PE X (.Call (.Name x q) (e :: es) [] pos) (tCallE sp t) := by
  constructor
  intro pins s σ H Q I h
  refine wpAny_Call_Name_kw (ld_glob I hg hm ?_ hdb)
  refine PySem.W.callWith_K (h₀ := X.base) I.ok.mod.kin hk (thn (ha.run pos pins s σ H _ I h) ?_) he hpl
  rintro us s1 ⟨vs, H1, I1, r, hsp⟩
  refine ⟨I1.kIn, ?_⟩
  have hlen : us.length = ps.length := by rw [← r.length]; exact F.len _ _ _ _ hsp
  have hbind := hb s1 us I1.kIn (by rw [List.append_nil]; exact hlen)
  rw [List.append_nil] at hbind
  refine wpAny_call (codeAny_mono (F.run X.A X.stack s1 H1 ⟨us, []⟩ us vs Q hr hgd I1.env0 hbind r hsp) ?_)
  intro r s' hq
  cases r with
  | error e => exact False.elim hq
  | ok fl =>
    cases fl with
    | ret u => exact I1.after hq
    | next => exact False.elim hq
    | brk => exact False.elim hq
    | cont => exact False.elim hq
/-! ### repr of a list or a tuple of plain data -/
def rReprD (K : PySem.W.Frag) : List V → Hp → VK → Prop := fun xs H Q => ∃ (a : Addr) (d : PyData), xs = [.ref a] ∧ Dp K H (.ref a) d ∧ d.showable = true ∧ d.hasDict = false ∧ d.depth ≤ 8 ∧ d.shown.length ≤ sizeLine ∧ Q (.str d.shown) H
theorem call_reprD {X : Cx} {k : Nat} (hr : Room k X.A) (hgd : X.A.guards = some []) : CallR X (.builtin "repr") (rReprD X.K) := by
  intro pins s σ H xs us Q I r h
  obtain ⟨a, d, rfl, hd, h1, h2, h3, h4, q⟩ := h
  obtain rfl := Vals.ref1 r
  obtain ⟨as, rd⟩ := Dp.reads I d (.ref a) (.ref a) hd rfl
  have hu := hr.units
  refine repr_of_reads' rd h1 (fun z => by rw [h2] at z; cases z) hgd (by omega) (fun b o e => e) (fun h' u tk hk => ?_) h4
  exact ⟨.str d.shown, H, I.kept hk, ⟨u, rfl⟩, q⟩
end L2
end
section
set_option maxRecDepth 100000
set_option maxHeartbeats 4000000
namespace LamX
open PySem PySem.Spec PyProof.Rows L2
/-! ### x(lambda: body, e2): the def takes the lambda and one value -/
/-- the callee's body for any reading tl of the lambda; call(): its first parameter -/
def Gives2 (X : Cx) (Ng : List Str) (x : Str) (sg : Scope) (g : Addr) (cdg : Value) (bg : List Stmt) (a : Str) (q : Str) (TT : (XK → Hp → VK → Prop) → (Hp → Prop) → V → Hp → VK → Prop) : Prop :=
  ∀ (f c' : Addr) (s : Shared) (H : Hp) (Q : VK) (v2 : V) (tl : XK → Hp → VK → Prop),
    (∀ (W : WX) (pn : List (Addr × Obj)) (xe : Value → Shared → Prop) (E : XK) (p1 p2 : Pos), Takes ((cxOf C8.CX0 X.prog X.w X.K X.mg X.base Ng x sg g cdg X.A X.stack s H C8.E0).tr pn xe) W → (∀ cls d σ' H', E cls d H' → W cls d σ' H') →
      PE ((cxOf C8.CX0 X.prog X.w X.K X.mg X.base Ng x sg g cdg X.A X.stack s H C8.E0).tr pn xe) (.Call (.Name a p1) [] [] p2) (fun σZ HZ Q => σZ[0]? = some (some (.ref f)) ∧ HZ c' = some (CodeO c' q) ∧ tl E HZ Q)) →
    H c' = some (CodeO c' q) → TT tl (fun H' => H' c' = some (CodeO c' q)) v2 H Q →
    ∃ t, PSs (cxOf C8.CX0 X.prog X.w X.K X.mg X.base Ng x sg g cdg X.A X.stack s H C8.E0).nox bg t ∧ t { nx := fun _ H' => Q .non H', rt := Q } (L2.start Ng [.ref f, v2]) H
def tLam2 (T : List (Addr × Str)) (q : Str) (TT : (XK → Hp → VK → Prop) → (Hp → Prop) → V → Hp → VK → Prop) (t : XK → TE) (te : TE) : TE := fun σ H Q => Tabs T H ∧ ∀ H1 c', ExtN H H1 → Tabs T H1 → H1 c' = some (CodeO c' q) →
  te σ H1 fun x H2 => ∃ v2, [x] = [v2] ∧ H2 c' = some (CodeO c' q) ∧ TT (fun E H' Q' => t E σ H' Q') (fun H' => H' c' = some (CodeO c' q)) v2 H2 Q
end LamX
end
section
set_option maxRecDepth 100000
set_option maxHeartbeats 4000000
/-! ### checks of exception classes in the written part -/
namespace L2
open PySem PySem.Spec PyProof.Rows
/-- the class at C descends from ValueError by own classes, its __init__ is the def at f -/
def oexB (K : PySem.W.Frag) (C : Addr) : Bool := (match K.lookup C with
  | some ⟨.type t, _, .cls cd, sl⟩ => decide (t = "type") && (match cd.mro, sl.toList with
    | .ref C' :: bm, [_, _, _, _, some (.builtin n), _] => decide (C' = C) && (decide (n = "ValueError.__new__") && (!cd.hasDel && (cd.hasDict && PySem.HandSPX.refsVE bm)))
    | _, _ => false)
  | _ => false) && (decide (PySem.W.findIn K (.ref C) "__setattr__" = some (some (.builtin "object.__setattr__"))) && (decide (PySem.W.subIn K (.ref C) (.type "BaseException") = some true) && (decide (PySem.W.typeIn K (.ref C) = some (.type "type")) && PySem.W.keepIn K (.ref C))))
theorem and2 {a b : Bool} (h : (a && b) = true) : a = true ∧ b = true := Bool.and_eq_true_iff.mp h
theorem oexB_ok {K : PySem.W.Frag} {C : Addr} (h : oexB K C = true) : OexC K C := by
  obtain ⟨h1, h⟩ := and2 h
  obtain ⟨h2, h⟩ := and2 h
  obtain ⟨h3, h⟩ := and2 h
  obtain ⟨h4, h5⟩ := and2 h
  refine ⟨?_, of_decide_eq_true h2, of_decide_eq_true h3, of_decide_eq_true h4, h5⟩
  split at h1
  · rename_i t dd cd sl ho
    obtain ⟨ht, h1⟩ := and2 h1
    have ht := of_decide_eq_true ht
    subst ht
    split at h1
    · rename_i C' bm k0 k1 k2 k3 n k5 hm hs
      obtain ⟨e0, h1⟩ := and2 h1
      obtain ⟨e1, h1⟩ := and2 h1
      obtain ⟨e2, h1⟩ := and2 h1
      obtain ⟨e3, h1⟩ := and2 h1
      obtain ⟨e4, e5⟩ := and2 h1
      have g1 := of_decide_eq_true e1
      have g2 := of_decide_eq_true e2
      have g3 : cd.hasDel = false := by
        cases q : cd.hasDel with
        | false => rfl
        | true =>
          rw [q] at e3
          cases e3
      clear h1 e0 e1 e2 e3 h
      subst g1 g2
      obtain ⟨nm, bs, mro, ns, qn, hd, sn, sub, ab, col, del⟩ := cd
      dsimp only at hm g3 e4
      subst hm g3 e4
      have hsl : sl = #[k0, k1, k2, k3, some (.builtin "ValueError.__new__"), k5] := by
        obtain ⟨l⟩ := sl
        simp only at hs
        rw [hs]
      subst hsl
      exact ⟨_, _, _, _, bm, _, _, _, _, _, _, _, _, _, _, ho, e5⟩
    · cases h1
  · cases h1
/-- .. and asked by isinstance -/
def excCB (K : PySem.W.Frag) (D : Addr) : Bool := decide (PySem.W.findIn K (.ref D) "__getattribute__" = some (some (.builtin "BaseException.__getattribute__"))) && (decide (PySem.W.findIn K (.ref D) "__getattr__" = some none) &&
  (decide (PySem.W.subIn K (.ref D) (.type "BaseException") = some true) && (PySem.W.hasDictIn K D && (decide (PySem.W.findIn K (.ref D) "__class__" = some (some (.builtin "object.__class__"))) &&
  (decide (PySem.W.specialIn K (.builtin "object.__class__") "__get__" = some (some (.builtin "getset_descriptor.__get__"))) && (decide (PySem.W.takesIn K (.builtin "object.__class__") = some true) && decide (PySem.W.mroIn K D (.type "object") = some true)))))))
theorem excCB_ok {K : PySem.W.Frag} {D : Addr} (h : excCB K D = true) : ExcC K D := by
  obtain ⟨h1, h⟩ := and2 h
  obtain ⟨h2, h⟩ := and2 h
  obtain ⟨h3, h⟩ := and2 h
  obtain ⟨h4, h⟩ := and2 h
  obtain ⟨h5, h⟩ := and2 h
  obtain ⟨h6, h⟩ := and2 h
  obtain ⟨h7, h8⟩ := and2 h
  exact ⟨of_decide_eq_true h1, of_decide_eq_true h2, of_decide_eq_true h3, h4, of_decide_eq_true h5, of_decide_eq_true h6, of_decide_eq_true h7, of_decide_eq_true h8⟩
/-- the whole of a class that is raised: its __init__ at f, what its instances' fields ask -/
structure ExT (K : PySem.W.Frag) (C f : Addr) : Prop where
  oex : OexC K C
  init : PySem.W.findIn K (.ref C) "__init__" = some (some (.ref f))
  fn : PySem.W.typeIn K (.ref f) = some (.type "function")
  xf : XfC K C
  exc : ExcC K C
def exTB (K : PySem.W.Frag) (C f : Addr) : Bool := oexB K C && (decide (PySem.W.findIn K (.ref C) "__init__" = some (some (.ref f))) && (decide (PySem.W.typeIn K (.ref f) = some (.type "function")) && (xfB K C && excCB K C)))
theorem exTB_ok {K : PySem.W.Frag} {C f : Addr} (h : exTB K C f = true) : ExT K C f := by
  obtain ⟨h1, h⟩ := and2 h
  obtain ⟨h2, h⟩ := and2 h
  obtain ⟨h3, h⟩ := and2 h
  obtain ⟨h4, h5⟩ := and2 h
  exact ⟨oexB_ok h1, of_decide_eq_true h2, of_decide_eq_true h3, xfB_ok h4, excCB_ok h5⟩
abbrev FnP (K : PySem.W.Frag) (x : Str) (st : Stmt) (f : Addr) (fd : FuncData) : Prop := FunD K x x (defArgs st) (defBody st) (defScope st) [] [] f fd
abbrev FnM (K : PySem.W.Frag) (x q : Str) (st : Stmt) (f : Addr) (fd : FuncData) : Prop := FunD K x q (defArgs st) (defBody st) (defScope st) [] [] f fd
/-- a def of the top, known by its name, keeps the promise sp -/
structure Ok (P : Program) (w : World) (K : PySem.W.Frag) (mg : Str → Option Value) (base : Heap) (CX : CXT) (k : Nat) (x : Str) (ps : List Str) (sp : Sp) : Prop where
  ex : ∃ f fd, FnOk P w K mg base CX k f fd ps sp ∧ mg x = some (.ref f) ∧ PySem.W.keepIn K (.ref f) = true ∧ Binds K fd ps []
section
variable {P : Program} {w : World} {K : PySem.W.Frag} {mg : Str → Option Value} {base : Heap} {CX : CXT} {k j : Nat} {x : Str} {ps N : List Str} {sp sp' : Sp} {st : Stmt}
theorem Ok.mono (o : Ok P w K mg base CX j x ps sp) (h : j ≤ k) : Ok P w K mg base CX k x ps sp := by
  obtain ⟨f, fd, h1, h2⟩ := o.ex
  exact ⟨f, fd, h1.mono h, h2⟩
theorem Ok.imp (o : Ok P w K mg base CX k x ps sp) (h : ∀ vs H Q E, sp' vs H Q E → sp vs H Q E) : Ok P w K mg base CX k x ps sp' := by
  obtain ⟨f, fd, h1, h2⟩ := o.ex
  exact ⟨f, fd, h1.imp h, h2⟩
/-- a promise that is never asked -/
theorem Ok.never (e : ∃ f fd, FnP K x st f fd ∧ mg x = some (.ref f))
    (hb : ∀ (kV doc pm : Value) (an : Option Addr) (cdv ct : Value) (us : List Value), us.length = ps.length → bindArgs (PySem.W.fnOf x x (defArgs st) (defBody st) (defScope st) .none kV doc pm an cdv ct) ⟨us, []⟩ = pure (ps.zip us)) : Ok P w K mg base CX k x ps (fun _ _ _ _ => False) := by
  obtain ⟨f, fd, F, g⟩ := e
  exact ⟨f, fd, ⟨fun _ _ _ _ z => z.elim, fun _ _ _ _ _ _ _ _ _ _ _ _ _ z => z.elim⟩, g, F.kp, F.bindsN hb⟩
/-- a def that lets nothing out -/
theorem Ok.def0 (e : ∃ f fd, FnP K x st f fd ∧ mg x = some (.ref f))
    (hb : ∀ (kV doc pm : Value) (an : Option Addr) (cdv ct : Value) (us : List Value), us.length = ps.length → bindArgs (PySem.W.fnOf x x (defArgs st) (defBody st) (defScope st) .none kV doc pm an cdv ct) ⟨us, []⟩ = pure (ps.zip us))
    (S : FnScope N ps (defScope st)) (len : ∀ vs H Q E, sp vs H Q E → vs.length = ps.length)
    (hbody : ∀ (f : Addr) (cdv : Value) (A : Around) (outer : List Env) (s : Shared) (H : Hp) (vs : List V) (Q : VK) (E : XK), Room k (A.deeper (envOfC x (defScope st) s.heap.objs.size f cdv)) → sp vs H Q E →
      ∃ t, PSs (cxOf CX0 P w K mg base N x (defScope st) f cdv A outer s H E).nox (defBody st) t ∧ t { nx := fun _ H' => Q .non H', rt := Q } (start N vs) H) : Ok P w K mg base CX0 (k + 1) x ps sp := by
  obtain ⟨f, fd, F, g⟩ := e
  refine ⟨f, fd, F.ok S len fun cdv A outer s H vs Q E hr h => ?_, g, F.kp, F.bindsN hb⟩
  obtain ⟨t, h1, h2⟩ := hbody f cdv A outer s H vs Q E hr h
  exact ⟨t, h1.nox, h2⟩
/-- a def that may raise -/
theorem Ok.defX (e : ∃ f fd, FnP K x st f fd ∧ mg x = some (.ref f))
    (hb : ∀ (kV doc pm : Value) (an : Option Addr) (cdv ct : Value) (us : List Value), us.length = ps.length → bindArgs (PySem.W.fnOf x x (defArgs st) (defBody st) (defScope st) .none kV doc pm an cdv ct) ⟨us, []⟩ = pure (ps.zip us))
    (S : FnScope N ps (defScope st)) (len : ∀ vs H Q E, sp vs H Q E → vs.length = ps.length)
    (hbody : ∀ (f : Addr) (cdv : Value) (A : Around) (outer : List Env) (s : Shared) (H : Hp) (vs : List V) (Q : VK) (E : XK), Room k (A.deeper (envOfC x (defScope st) s.heap.objs.size f cdv)) → sp vs H Q E →
      Takes (cxOf (L2.CX P w) P w K mg base N x (defScope st) f cdv A outer s H E) (fun cls d _ H => E cls d H) →
      ∃ t, PSs (cxOf (L2.CX P w) P w K mg base N x (defScope st) f cdv A outer s H E) (defBody st) t ∧ t { nx := fun _ H' => Q .non H', rt := Q } (start N vs) H) : Ok P w K mg base (L2.CX P w) (k + 1) x ps sp := by
  obtain ⟨f, fd, F, g⟩ := e
  refine ⟨f, fd, F.ok S len fun cdv A outer s H vs Q E hr h => ?_, g, F.kp, F.bindsN hb⟩
  exact hbody f cdv A outer s H vs Q E hr h (takes_of rfl rfl rfl rfl)
end
section
variable {X : Cx} {CX : CXT} {k : Nat} {x : Str} {ps : List Str} {sp : Sp} {E : XK} {p pos : Pos} {e : Expr} {es : List Expr} {t : TA}
theorem pe_ok (O : Ok X.prog X.w X.K X.mg X.base CX k x ps sp) (hr : Room k X.A) (hg : Gl X x) (hx : Passes CX X E) (ha : PA X (e :: es) t)
    (hdb : (x == ("__debug__" : Str)) = false := by decide) (he : starEach (e :: es) X.env = (false, eval e X.env) :: starEach es X.env := by rfl) (hpl : (backTo pos (starEach es X.env)).any (·.1) = false := by rfl) :
    PE X (.Call (.Name x p) (e :: es) [] pos) (tCall sp [] E t) := by
  obtain ⟨f, fd, F, hm, hk, hb⟩ := O.ex
  exact pe_call F hr hg hm hk hb .nil hx ha hdb he hpl
/-- what is raised is wished for at the caller's slots -/
theorem pe_okS {E : St → XK} (O : Ok X.prog X.w X.K X.mg X.base CX k x ps sp) (hr : Room k X.A) (hg : Gl X x) (hx : ∀ σ, PassesAt CX X σ (E σ)) (ha : PA X (e :: es) t)
    (hdb : (x == ("__debug__" : Str)) = false := by decide) (he : starEach (e :: es) X.env = (false, eval e X.env) :: starEach es X.env := by rfl) (hpl : (backTo pos (starEach es X.env)).any (·.1) = false := by rfl) :
    PE X (.Call (.Name x p) (e :: es) [] pos) (tCallS sp E t) := by
  obtain ⟨f, fd, F, hm, hk, hb⟩ := O.ex
  exact pe_callS F hr hg hm hk hb hx ha hdb he hpl
end
/-- an own exception class, known by its name, whose __init__ keeps sp -/
structure XOk (P : Program) (w : World) (K : PySem.W.Frag) (mg : Str → Option Value) (base : Heap) (k : Nat) (x : Str) (C : Addr) (ps : List Str) (sp : Sp) : Prop where
  ex : ∃ f fd, ExT K C f ∧ FnOk P w K mg base CX0 k f fd ps sp ∧ mg x = some (.ref C) ∧ Binds K fd ps []
theorem pmk_x {X : Cx} {k : Nat} {x : Str} {C : Addr} {ps : List Str} {sp : Sp} {p pos : Pos} {e : Expr} {es : List Expr} {ta : TA} (O : XOk X.prog X.w X.K X.mg X.base k x C ps sp) (hr : Room (k + 1) X.A) (hg : Gl X x) (ha : PA X (e :: es) ta)
    (hdb : (x == ("__debug__" : Str)) = false := by decide) (he : starEach (e :: es) X.env = (false, eval e X.env) :: starEach es X.env := by rfl) (hpl : (backTo pos (starEach es X.env)).any (·.1) = false := by rfl) :
    PMk X (.Call (.Name x p) (e :: es) [] pos) (tMkO C sp [] ta) := by
  obtain ⟨f, fd, T, F, hm, hb⟩ := O.ex
  exact pmk_oex T.oex T.init T.fn F hr hb .nil pass0 hg hm ha hdb he hpl
end L2
end
section
set_option maxRecDepth 100000
set_option maxHeartbeats 4000000
/-! ### the head's facts, the interpreter's own statics among what is looked at -/
namespace He
open PySem PySem.Spec PyProof.Rows L2
def asS (g : Addr → Option Obj) (n : Nat) : List Addr := PySem.cStatics :: asD g n
def obsS (n : Nat) (fa : List Fa) (fn : List DefD) (ts : List Tab) (tf : List Defn) (ex : PySem.W.Frag → Bool) (g : Addr → Option Obj) : AlX := (obsT fa fn ts (frT g (asS g n)), ex (frT g (asS g n)) && tabsB g tf (frT g (asS g n)))
theorem saysS_of {n : Nat} {fa : List Fa} {fn : List DefD} {ts : List Tab} {tf : List Defn} {ex : PySem.W.Frag → Bool} {w : World} {h : Heap} (e : obsS n fa fn ts tf ex h.get? = valX fn ts w) : SaysX fa fn ts tf ex w h (frT h.get? (asS h.get? n)) := by
  have e1 := congrArg Prod.fst e
  have e2 : (ex (frT h.get? (asS h.get? n)) && tabsB h.get? tf (frT h.get? (asS h.get? n))) = true := congrArg Prod.snd e
  obtain ⟨hx, ht⟩ := ba e2
  have tab : ∀ p ∈ tf, PySem.W.codeHdIn (frT h.get? (asS h.get? n)) (cT (frT h.get? (asS h.get? n)) p).1 (cT (frT h.get? (asS h.get? n)) p).2 = true ∧ ∃ o, h.get? (cT (frT h.get? (asS h.get? n)) p).2 = some o ∧ emptyTab o = true := by
    intro p hp
    obtain ⟨c1, c2⟩ := ba (List.all_eq_true.mp ht p hp)
    refine ⟨c1, ?_⟩
    revert c2
    cases h.get? (cT (frT h.get? (asS h.get? n)) p).2 with
    | none => exact fun z => by cases z
    | some o => exact fun z => ⟨o, rfl, z⟩
  exact {
    t := e1
    more := hx
    hd := fun p hp => (tab p hp).1
    out := fun p hp => let ⟨_, o, q, z⟩ := tab p hp; frT_none q z
    empty := fun p hp => let ⟨_, o, q, z⟩ := tab p hp; by rw [q, emptyTab_eq z] }
def hookS (n : Nat) (fa : List Fa) (fn : List DefD) (ts : List Tab) (tf : List Defn) (ex : PySem.W.Frag → Bool) : PySem.W.Hook where
  α := AlX
  obs := fun s => obsS n fa fn ts tf ex s.heap.get?
  val := fun w => valX fn ts w
  says := fun w h => ∃ K : PySem.W.Frag, K.In h ∧ SaysX fa fn ts tf ex w h K
  of := fun _ _ e => ⟨_, frT_in, saysS_of e⟩
  keeps := fun _ _ _ ⟨K, hK, c⟩ k => ⟨K, PySem.W.Frag.In.keeps hK k, ⟨c.t, c.more, c.hd, c.out, fun p hp => k _ _ (c.empty p hp)⟩⟩
theorem obsS_eq {n : Nat} {fa : List Fa} {fn : List DefD} {ts : List Tab} {tf : List Defn} {ex : PySem.W.Frag → Bool} {g : Addr → Option Obj} {s : Shared} (h : ∀ a, g a = s.heap.get? a) : obsS n fa fn ts tf ex g = (hookS n fa fn ts tf ex).obs s := by
  obtain rfl : g = s.heap.get? := funext h
  rfl
end He
end
section
set_option maxRecDepth 100000
set_option maxHeartbeats 4000000
namespace K05
open PySem PySem.Spec PyProof.Rows L2
def top (i : Nat) : Stmt := PySem.Challenge.pw_seenenough_k05_dues_and_catches.main.body.getD i (.Pass ⟨0, 0, 0, 0⟩)
abbrev s_check : Stmt := top 22
theorem sc_check : FnScope ["what", "number"] ["what", "number"] (defScope s_check) := ⟨rfl, rfl, rfl, by decide +kernel, rfl, by decide +kernel, by decide +kernel⟩
abbrev s_check_ditch : Stmt := top 23
theorem sc_check_ditch : FnScope ["ditch"] ["ditch"] (defScope s_check_ditch) := ⟨rfl, rfl, rfl, by decide +kernel, rfl, by decide +kernel, by decide +kernel⟩
abbrev s_check_day : Stmt := top 24
theorem sc_check_day : FnScope ["day", "first", "days"] ["day", "first", "days"] (defScope s_check_day) := ⟨rfl, rfl, rfl, by decide +kernel, rfl, by decide +kernel, by decide +kernel⟩
abbrev s_check_stretch : Stmt := top 26
theorem sc_check_stretch : FnScope ["a", "b", "days"] ["a", "b", "days"] (defScope s_check_stretch) := ⟨rfl, rfl, rfl, by decide +kernel, rfl, by decide +kernel, by decide +kernel⟩
abbrev s_check_ditch_sign : Stmt := top 27
theorem sc_check_ditch_sign : FnScope ["ditch"] ["ditch"] (defScope s_check_ditch_sign) := ⟨rfl, rfl, rfl, by decide +kernel, rfl, by decide +kernel, by decide +kernel⟩
abbrev s_count_grid : Stmt := top 28
theorem sc_count_grid : FnScope ["days", "windows", "a", "grid", "first", "last", "b"] ["days", "windows"] (defScope s_count_grid) := ⟨rfl, rfl, rfl, by decide +kernel, rfl, by decide +kernel, by decide +kernel⟩
abbrev s_first_unfit : Stmt := top 29
theorem sc_first_unfit : FnScope ["grid", "days", "ditch", "b", "a"] ["grid", "days", "ditch"] (defScope s_first_unfit) := ⟨rfl, rfl, rfl, by decide +kernel, rfl, by decide +kernel, by decide +kernel⟩
abbrev s_due_rows : Stmt := top 30
theorem sc_due_rows : FnScope ["grid", "days", "ditch", "rows", "t", "c", "row"] ["grid", "days", "ditch"] (defScope s_due_rows) := ⟨rfl, rfl, rfl, by decide +kernel, rfl, by decide +kernel, by decide +kernel⟩
abbrev s_catch_day : Stmt := top 31
theorem sc_catch_day : FnScope ["grid", "days", "ditch", "t", "c", "due", "day"] ["grid", "days", "ditch", "t", "c"] (defScope s_catch_day) := ⟨rfl, rfl, rfl, by decide +kernel, rfl, by decide +kernel, by decide +kernel⟩
abbrev s_due_table : Stmt := top 32
theorem sc_due_table : FnScope ["rows", "days", "t", "c"] ["rows", "days"] (defScope s_due_table) := ⟨rfl, rfl, rfl, by decide +kernel, rfl, by decide +kernel, by decide +kernel⟩
abbrev s__law_b_told : Stmt := top 38
theorem sc__law_b_told : FnScope ["error", "found"] ["error"] (defScope s__law_b_told) := ⟨rfl, rfl, rfl, by decide +kernel, rfl, by decide +kernel, by decide +kernel⟩
abbrev s__law_b_refused : Stmt := top 39
theorem sc__law_b_refused : FnScope ["call", "due", "found", "raised"] ["call", "due"] (defScope s__law_b_refused) := ⟨rfl, rfl, rfl, by decide +kernel, rfl, by decide +kernel, by decide +kernel⟩
abbrev s__law_b_windows : Stmt := top 40
theorem sc__law_b_windows : FnScope ["stock", "days", "many", "found", "turn", "kind", "first", "last"] ["stock", "days", "many"] (defScope s__law_b_windows) := ⟨rfl, rfl, rfl, by decide +kernel, rfl, by decide +kernel, by decide +kernel⟩
abbrev s__law_stock : Stmt := top 41
theorem sc__law_stock : FnScope ["script", "at", "one", "cell", "size", "small"] ["script", "at"] (defScope s__law_stock) := ⟨rfl, rfl, rfl, by decide +kernel, rfl, by decide +kernel, by decide +kernel⟩
abbrev s__law_draw : Stmt := top 42
theorem sc__law_draw : FnScope ["stock", "many", "found"] ["stock", "many"] (defScope s__law_draw) := ⟨rfl, rfl, rfl, by decide +kernel, rfl, by decide +kernel, by decide +kernel⟩
abbrev s__law_matches : Stmt := top 43
theorem sc__law_matches : FnScope ["answer", "due", "key", "at"] ["answer", "due"] (defScope s__law_matches) := ⟨rfl, rfl, rfl, by decide +kernel, rfl, by decide +kernel, by decide +kernel⟩
abbrev s__law_k05_counts : Stmt := top 44
theorem sc__law_k05_counts : FnScope ["days", "windows", "rows", "a", "b", "window"] ["days", "windows"] (defScope s__law_k05_counts) := ⟨rfl, rfl, rfl, by decide +kernel, rfl, by decide +kernel, by decide +kernel⟩
abbrev s__law_k05_least_fit : Stmt := top 45
theorem sc__law_k05_least_fit : FnScope ["days", "counts", "found", "b", "a"] ["days", "counts"] (defScope s__law_k05_least_fit) := ⟨rfl, rfl, rfl, by decide +kernel, rfl, by decide +kernel, by decide +kernel⟩
abbrev s__law_k05_unfit : Stmt := top 46
theorem sc__law_k05_unfit : FnScope ["days", "counts", "h", "b", "a"] ["days", "counts", "h"] (defScope s__law_k05_unfit) := ⟨rfl, rfl, rfl, by decide +kernel, rfl, by decide +kernel, by decide +kernel⟩
abbrev s__law_k05_due : Stmt := top 47
theorem sc__law_k05_due : FnScope ["days", "counts", "h", "t", "c", "d"] ["days", "counts", "h", "t", "c"] (defScope s__law_k05_due) := ⟨rfl, rfl, rfl, by decide +kernel, rfl, by decide +kernel, by decide +kernel⟩
abbrev s__law_k05_catch : Stmt := top 48
theorem sc__law_k05_catch : FnScope ["days", "counts", "h", "t", "c", "due", "best", "day"] ["days", "counts", "h", "t", "c"] (defScope s__law_k05_catch) := ⟨rfl, rfl, rfl, by decide +kernel, rfl, by decide +kernel, by decide +kernel⟩
abbrev s__law_k05_fit : Stmt := top 49
theorem sc__law_k05_fit : FnScope ["stock", "days", "counts", "h", "garden", "due", "t", "c", "told", "couples", "turn", "couple"] ["stock", "days", "counts", "h", "garden"] (defScope s__law_k05_fit) := ⟨rfl, rfl, rfl, by decide +kernel, rfl, by decide +kernel, by decide +kernel⟩
abbrev s__law_k05_days : Stmt := top 50
theorem sc__law_k05_days : FnScope ["days", "garden", "h", "far"] ["days", "garden", "h"] (defScope s__law_k05_days) := ⟨rfl, rfl, rfl, by decide +kernel, rfl, by decide +kernel, by decide +kernel⟩
abbrev s__law_k05_unfit_asked : Stmt := top 51
theorem sc__law_k05_unfit_asked : FnScope ["days", "counts", "h", "garden"] ["days", "counts", "h", "garden"] (defScope s__law_k05_unfit_asked) := ⟨rfl, rfl, rfl, by decide +kernel, rfl, by decide +kernel, by decide +kernel⟩
abbrev s__law_k05_beyond : Stmt := top 52
theorem sc__law_k05_beyond : FnScope ["garden", "over"] ["garden"] (defScope s__law_k05_beyond) := ⟨rfl, rfl, rfl, by decide +kernel, rfl, by decide +kernel, by decide +kernel⟩
abbrev s_law : Stmt := top 53
theorem sc_law : FnScope ["script", "stock", "great", "worlds", "at", "one", "days", "many", "windows", "world", "made", "third", "counts", "least", "h"] ["script"] (defScope s_law) := ⟨rfl, rfl, rfl, by decide +kernel, rfl, by decide +kernel, by decide +kernel⟩
abbrev s_TooMany___init__ : Stmt := inClass (top 3) 0
theorem sc_TooMany___init__ : FnScope ["self", "what"] ["self", "what"] (defScope s_TooMany___init__) := ⟨rfl, rfl, rfl, by decide +kernel, rfl, by decide +kernel, by decide +kernel⟩
abbrev s_BadGarden___init__ : Stmt := inClass (top 7) 0
theorem sc_BadGarden___init__ : FnScope ["self", "row"] ["self", "row"] (defScope s_BadGarden___init__) := ⟨rfl, rfl, rfl, by decide +kernel, rfl, by decide +kernel, by decide +kernel⟩
abbrev s_BadDay___init__ : Stmt := inClass (top 17) 0
theorem sc_BadDay___init__ : FnScope ["self", "day"] ["self", "day"] (defScope s_BadDay___init__) := ⟨rfl, rfl, rfl, by decide +kernel, rfl, by decide +kernel, by decide +kernel⟩
abbrev s_BadSetting___init__ : Stmt := inClass (top 8) 0
theorem sc_BadSetting___init__ : FnScope ["self", "what"] ["self", "what"] (defScope s_BadSetting___init__) := ⟨rfl, rfl, rfl, by decide +kernel, rfl, by decide +kernel, by decide +kernel⟩
abbrev s_Garden___init__ : Stmt := inClass (top 36) 0
theorem sc_Garden___init__ : FnScope ["self", "days", "seeds", "at", "first", "last"] ["self", "days", "seeds"] (defScope s_Garden___init__) := ⟨rfl, rfl, rfl, by decide +kernel, rfl, by decide +kernel, by decide +kernel⟩
abbrev s_Garden_rows : Stmt := inClass (top 36) 3
theorem sc_Garden_rows : FnScope ["self"] ["self"] (defScope s_Garden_rows) := ⟨rfl, rfl, rfl, by decide +kernel, rfl, by decide +kernel, by decide +kernel⟩
abbrev s_Garden_unfit : Stmt := inClass (top 36) 5
theorem sc_Garden_unfit : FnScope ["self", "ditch"] ["self", "ditch"] (defScope s_Garden_unfit) := ⟨rfl, rfl, rfl, by decide +kernel, rfl, by decide +kernel, by decide +kernel⟩
abbrev s_Garden_check_fit : Stmt := inClass (top 36) 6
theorem sc_Garden_check_fit : FnScope ["self", "ditch"] ["self", "ditch"] (defScope s_Garden_check_fit) := ⟨rfl, rfl, rfl, by decide +kernel, rfl, by decide +kernel, by decide +kernel⟩
abbrev s_Garden_due_grid : Stmt := inClass (top 36) 7
theorem sc_Garden_due_grid : FnScope ["self", "ditch"] ["self", "ditch"] (defScope s_Garden_due_grid) := ⟨rfl, rfl, rfl, by decide +kernel, rfl, by decide +kernel, by decide +kernel⟩
abbrev s_Garden_dues : Stmt := inClass (top 36) 8
theorem sc_Garden_dues : FnScope ["self", "ditch"] ["self", "ditch"] (defScope s_Garden_dues) := ⟨rfl, rfl, rfl, by decide +kernel, rfl, by decide +kernel, by decide +kernel⟩
abbrev s_Garden_catch : Stmt := inClass (top 36) 9
theorem sc_Garden_catch : FnScope ["self", "ditch", "t", "c"] ["self", "ditch", "t", "c"] (defScope s_Garden_catch) := ⟨rfl, rfl, rfl, by decide +kernel, rfl, by decide +kernel, by decide +kernel⟩
def d_check : He.DefD := ⟨("check", none), "check", "check", defArgs s_check, defBody s_check, defScope s_check, [], []⟩
def d_check_ditch : He.DefD := ⟨("check_ditch", none), "check_ditch", "check_ditch", defArgs s_check_ditch, defBody s_check_ditch, defScope s_check_ditch, [], []⟩
def d_check_day : He.DefD := ⟨("check_day", none), "check_day", "check_day", defArgs s_check_day, defBody s_check_day, defScope s_check_day, [], []⟩
def d_check_stretch : He.DefD := ⟨("check_stretch", none), "check_stretch", "check_stretch", defArgs s_check_stretch, defBody s_check_stretch, defScope s_check_stretch, [], []⟩
def d_check_ditch_sign : He.DefD := ⟨("check_ditch_sign", none), "check_ditch_sign", "check_ditch_sign", defArgs s_check_ditch_sign, defBody s_check_ditch_sign, defScope s_check_ditch_sign, [], []⟩
def d_count_grid : He.DefD := ⟨("count_grid", none), "count_grid", "count_grid", defArgs s_count_grid, defBody s_count_grid, defScope s_count_grid, [], []⟩
def d_first_unfit : He.DefD := ⟨("first_unfit", none), "first_unfit", "first_unfit", defArgs s_first_unfit, defBody s_first_unfit, defScope s_first_unfit, [], []⟩
def d_due_rows : He.DefD := ⟨("due_rows", none), "due_rows", "due_rows", defArgs s_due_rows, defBody s_due_rows, defScope s_due_rows, [], []⟩
def d_catch_day : He.DefD := ⟨("catch_day", none), "catch_day", "catch_day", defArgs s_catch_day, defBody s_catch_day, defScope s_catch_day, [], []⟩
def d_due_table : He.DefD := ⟨("due_table", none), "due_table", "due_table", defArgs s_due_table, defBody s_due_table, defScope s_due_table, [], []⟩
def d__law_b_told : He.DefD := ⟨("_law_b_told", none), "_law_b_told", "_law_b_told", defArgs s__law_b_told, defBody s__law_b_told, defScope s__law_b_told, [], []⟩
def d__law_b_refused : He.DefD := ⟨("_law_b_refused", none), "_law_b_refused", "_law_b_refused", defArgs s__law_b_refused, defBody s__law_b_refused, defScope s__law_b_refused, [], []⟩
def d__law_b_windows : He.DefD := ⟨("_law_b_windows", none), "_law_b_windows", "_law_b_windows", defArgs s__law_b_windows, defBody s__law_b_windows, defScope s__law_b_windows, [], []⟩
def d__law_stock : He.DefD := ⟨("_law_stock", none), "_law_stock", "_law_stock", defArgs s__law_stock, defBody s__law_stock, defScope s__law_stock, [], []⟩
def d__law_draw : He.DefD := ⟨("_law_draw", none), "_law_draw", "_law_draw", defArgs s__law_draw, defBody s__law_draw, defScope s__law_draw, [], []⟩
def d__law_matches : He.DefD := ⟨("_law_matches", none), "_law_matches", "_law_matches", defArgs s__law_matches, defBody s__law_matches, defScope s__law_matches, [], []⟩
def d__law_k05_counts : He.DefD := ⟨("_law_k05_counts", none), "_law_k05_counts", "_law_k05_counts", defArgs s__law_k05_counts, defBody s__law_k05_counts, defScope s__law_k05_counts, [], []⟩
def d__law_k05_least_fit : He.DefD := ⟨("_law_k05_least_fit", none), "_law_k05_least_fit", "_law_k05_least_fit", defArgs s__law_k05_least_fit, defBody s__law_k05_least_fit, defScope s__law_k05_least_fit, [], []⟩
def d__law_k05_unfit : He.DefD := ⟨("_law_k05_unfit", none), "_law_k05_unfit", "_law_k05_unfit", defArgs s__law_k05_unfit, defBody s__law_k05_unfit, defScope s__law_k05_unfit, [], []⟩
def d__law_k05_due : He.DefD := ⟨("_law_k05_due", none), "_law_k05_due", "_law_k05_due", defArgs s__law_k05_due, defBody s__law_k05_due, defScope s__law_k05_due, [], []⟩
def d__law_k05_catch : He.DefD := ⟨("_law_k05_catch", none), "_law_k05_catch", "_law_k05_catch", defArgs s__law_k05_catch, defBody s__law_k05_catch, defScope s__law_k05_catch, [], []⟩
def d__law_k05_fit : He.DefD := ⟨("_law_k05_fit", none), "_law_k05_fit", "_law_k05_fit", defArgs s__law_k05_fit, defBody s__law_k05_fit, defScope s__law_k05_fit, [], []⟩
def d__law_k05_days : He.DefD := ⟨("_law_k05_days", none), "_law_k05_days", "_law_k05_days", defArgs s__law_k05_days, defBody s__law_k05_days, defScope s__law_k05_days, [], []⟩
def d__law_k05_unfit_asked : He.DefD := ⟨("_law_k05_unfit_asked", none), "_law_k05_unfit_asked", "_law_k05_unfit_asked", defArgs s__law_k05_unfit_asked, defBody s__law_k05_unfit_asked, defScope s__law_k05_unfit_asked, [], []⟩
def d__law_k05_beyond : He.DefD := ⟨("_law_k05_beyond", none), "_law_k05_beyond", "_law_k05_beyond", defArgs s__law_k05_beyond, defBody s__law_k05_beyond, defScope s__law_k05_beyond, [], []⟩
def d_law : He.DefD := ⟨("law", none), "law", "law", defArgs s_law, defBody s_law, defScope s_law, [], []⟩
def d_TooMany___init__ : He.DefD := ⟨("TooMany", some "__init__"), "__init__", "TooMany.__init__", defArgs s_TooMany___init__, defBody s_TooMany___init__, defScope s_TooMany___init__, [], []⟩
def d_BadGarden___init__ : He.DefD := ⟨("BadGarden", some "__init__"), "__init__", "BadGarden.__init__", defArgs s_BadGarden___init__, defBody s_BadGarden___init__, defScope s_BadGarden___init__, [], []⟩
def d_BadDay___init__ : He.DefD := ⟨("BadDay", some "__init__"), "__init__", "BadDay.__init__", defArgs s_BadDay___init__, defBody s_BadDay___init__, defScope s_BadDay___init__, [], []⟩
def d_BadSetting___init__ : He.DefD := ⟨("BadSetting", some "__init__"), "__init__", "BadSetting.__init__", defArgs s_BadSetting___init__, defBody s_BadSetting___init__, defScope s_BadSetting___init__, [], []⟩
def d_Garden___init__ : He.DefD := ⟨("Garden", some "__init__"), "__init__", "Garden.__init__", defArgs s_Garden___init__, defBody s_Garden___init__, defScope s_Garden___init__, [], []⟩
def d_Garden_rows : He.DefD := ⟨("Garden", some "rows"), "rows", "Garden.rows", defArgs s_Garden_rows, defBody s_Garden_rows, defScope s_Garden_rows, [], []⟩
def d_Garden_unfit : He.DefD := ⟨("Garden", some "unfit"), "unfit", "Garden.unfit", defArgs s_Garden_unfit, defBody s_Garden_unfit, defScope s_Garden_unfit, [], []⟩
def d_Garden_check_fit : He.DefD := ⟨("Garden", some "check_fit"), "check_fit", "Garden.check_fit", defArgs s_Garden_check_fit, defBody s_Garden_check_fit, defScope s_Garden_check_fit, [], []⟩
def d_Garden_due_grid : He.DefD := ⟨("Garden", some "due_grid"), "due_grid", "Garden.due_grid", defArgs s_Garden_due_grid, defBody s_Garden_due_grid, defScope s_Garden_due_grid, [], []⟩
def d_Garden_dues : He.DefD := ⟨("Garden", some "dues"), "dues", "Garden.dues", defArgs s_Garden_dues, defBody s_Garden_dues, defScope s_Garden_dues, [], []⟩
def d_Garden_catch : He.DefD := ⟨("Garden", some "catch"), "catch", "Garden.catch", defArgs s_Garden_catch, defBody s_Garden_catch, defScope s_Garden_catch, [], []⟩
def fn : List He.DefD := [d_check, d_check_ditch, d_check_day, d_check_stretch, d_check_ditch_sign, d_count_grid, d_first_unfit, d_due_rows, d_catch_day, d_due_table, d__law_b_told, d__law_b_refused, d__law_b_windows, d__law_stock, d__law_draw, d__law_matches, d__law_k05_counts, d__law_k05_least_fit, d__law_k05_unfit, d__law_k05_due, d__law_k05_catch, d__law_k05_fit, d__law_k05_days, d__law_k05_unfit_asked, d__law_k05_beyond, d_law, d_TooMany___init__, d_BadGarden___init__, d_BadDay___init__, d_BadSetting___init__, d_Garden___init__, d_Garden_rows, d_Garden_unfit, d_Garden_check_fit, d_Garden_due_grid, d_Garden_dues, d_Garden_catch]
def fa : List He.Fa := [.glo "check", .glo "check_ditch", .glo "check_day", .glo "check_stretch", .glo "check_ditch_sign", .glo "count_grid", .glo "first_unfit", .glo "due_rows", .glo "catch_day", .glo "due_table", .glo "_law_b_told", .glo "_law_b_refused", .glo "_law_b_windows", .glo "_law_stock", .glo "_law_draw", .glo "_law_matches", .glo "_law_k05_counts", .glo "_law_k05_least_fit", .glo "_law_k05_unfit", .glo "_law_k05_due", .glo "_law_k05_catch", .glo "_law_k05_fit", .glo "_law_k05_days", .glo "_law_k05_unfit_asked", .glo "_law_k05_beyond", .glo "law", .glo "SeenError", .glo "TooMany", .glo "BadSky", .glo "BadWeather", .glo "BadReport", .glo "BadGarden", .glo "BadSetting", .glo "BadHouse", .glo "BadDay", .glo "BadText", .glo "NotKept", .glo "Unsafe", .glo "BadCalls", .glo "BadOffers", .glo "BadTable", .glo "BadRow", .glo "BadCalendar", .glo "BadDeed", .glo "Garden", .glo "LIMITS", .free "len", .free "max", .free "min", .free "list", .free "int", .free "abs", .free "sum", .free "isinstance", .free "range", .free "bool", .free "str", .free "dict", .free "tuple", .free "ValueError", .cls "Garden", .mkr "Garden", .noat "Garden" "days_number", .noat "Garden" "seed_list", .meth "Garden" "rows", .meth "Garden" "unfit", .meth "Garden" "check_fit", .meth "Garden" "due_grid", .meth "Garden" "dues", .meth "Garden" "catch"]
def tf : List He.Defn := [("_law_k05_days", none), ("_law_k05_unfit_asked", none), ("_law_k05_beyond", none)]
def ts : List He.Tab := []
def limits : List (Str × He.Dv) := [("days", .int 24), ("rains", .int 40), ("cans", .int 1000000000000), ("seeds", .int 120), ("weathers", .int 100), ("calls", .int 60), ("price", .int 1000000000000), ("offers", .int 120), ("trials", .int 6), ("lot", .int 14), ("houses", .int 6), ("row", .int 4), ("deeds", .int 120)]
def limKeys : List Str := ["days", "rains", "cans", "seeds", "weathers", "calls", "price", "offers", "trials", "lot", "houses", "row", "deeds"]
def exs (K : PySem.W.Frag) : List Bool := [He.valsB K (He.ga K "LIMITS") limits,
  seB K (He.ga K "SeenError"),
  exTB K (He.ga K "TooMany") (He.ma K (He.ga K "TooMany") "__init__"),
  decide (PySem.W.findIn K (.ref (He.ga K "TooMany")) "what" = some none),
  decide (PySem.W.exmOne K (.ref (He.ga K "TooMany")) (.ref (He.ga K "SeenError")) = some true),
  decide (PySem.W.kitOne K (.ref (He.ga K "TooMany")) (.ref (He.ga K "TooMany")) = some true),
  decide (PySem.W.kitOne K (.ref (He.ga K "TooMany")) (.ref (He.ga K "BadSky")) = some false),
  decide (PySem.W.kitOne K (.ref (He.ga K "TooMany")) (.ref (He.ga K "BadWeather")) = some false),
  decide (PySem.W.kitOne K (.ref (He.ga K "TooMany")) (.ref (He.ga K "BadReport")) = some false),
  decide (PySem.W.kitOne K (.ref (He.ga K "TooMany")) (.ref (He.ga K "BadGarden")) = some false),
  decide (PySem.W.kitOne K (.ref (He.ga K "TooMany")) (.ref (He.ga K "BadSetting")) = some false),
  decide (PySem.W.kitOne K (.ref (He.ga K "TooMany")) (.ref (He.ga K "BadHouse")) = some false),
  decide (PySem.W.kitOne K (.ref (He.ga K "TooMany")) (.ref (He.ga K "BadDay")) = some false),
  decide (PySem.W.kitOne K (.ref (He.ga K "TooMany")) (.ref (He.ga K "BadText")) = some false),
  decide (PySem.W.kitOne K (.ref (He.ga K "TooMany")) (.ref (He.ga K "NotKept")) = some false),
  decide (PySem.W.kitOne K (.ref (He.ga K "TooMany")) (.ref (He.ga K "Unsafe")) = some false),
  decide (PySem.W.kitOne K (.ref (He.ga K "TooMany")) (.ref (He.ga K "BadCalls")) = some false),
  decide (PySem.W.kitOne K (.ref (He.ga K "TooMany")) (.ref (He.ga K "BadOffers")) = some false),
  decide (PySem.W.kitOne K (.ref (He.ga K "TooMany")) (.ref (He.ga K "BadTable")) = some false),
  decide (PySem.W.kitOne K (.ref (He.ga K "TooMany")) (.ref (He.ga K "BadRow")) = some false),
  decide (PySem.W.kitOne K (.ref (He.ga K "TooMany")) (.ref (He.ga K "BadCalendar")) = some false),
  decide (PySem.W.kitOne K (.ref (He.ga K "TooMany")) (.ref (He.ga K "BadDeed")) = some false),
  decide (PySem.W.kitOne K (.ref (He.ga K "TooMany")) (.type "ValueError") = some true),
  exTB K (He.ga K "BadGarden") (He.ma K (He.ga K "BadGarden") "__init__"),
  decide (PySem.W.findIn K (.ref (He.ga K "BadGarden")) "row" = some none),
  decide (PySem.W.exmOne K (.ref (He.ga K "BadGarden")) (.ref (He.ga K "SeenError")) = some true),
  decide (PySem.W.kitOne K (.ref (He.ga K "BadGarden")) (.ref (He.ga K "TooMany")) = some false),
  decide (PySem.W.kitOne K (.ref (He.ga K "BadGarden")) (.ref (He.ga K "BadSky")) = some false),
  decide (PySem.W.kitOne K (.ref (He.ga K "BadGarden")) (.ref (He.ga K "BadWeather")) = some false),
  decide (PySem.W.kitOne K (.ref (He.ga K "BadGarden")) (.ref (He.ga K "BadReport")) = some false),
  decide (PySem.W.kitOne K (.ref (He.ga K "BadGarden")) (.ref (He.ga K "BadGarden")) = some true),
  decide (PySem.W.kitOne K (.ref (He.ga K "BadGarden")) (.ref (He.ga K "BadSetting")) = some false),
  decide (PySem.W.kitOne K (.ref (He.ga K "BadGarden")) (.ref (He.ga K "BadHouse")) = some false),
  decide (PySem.W.kitOne K (.ref (He.ga K "BadGarden")) (.ref (He.ga K "BadDay")) = some false),
  decide (PySem.W.kitOne K (.ref (He.ga K "BadGarden")) (.ref (He.ga K "BadText")) = some false),
  decide (PySem.W.kitOne K (.ref (He.ga K "BadGarden")) (.ref (He.ga K "NotKept")) = some false),
  decide (PySem.W.kitOne K (.ref (He.ga K "BadGarden")) (.ref (He.ga K "Unsafe")) = some false),
  decide (PySem.W.kitOne K (.ref (He.ga K "BadGarden")) (.ref (He.ga K "BadCalls")) = some false),
  decide (PySem.W.kitOne K (.ref (He.ga K "BadGarden")) (.ref (He.ga K "BadOffers")) = some false),
  decide (PySem.W.kitOne K (.ref (He.ga K "BadGarden")) (.ref (He.ga K "BadTable")) = some false),
  decide (PySem.W.kitOne K (.ref (He.ga K "BadGarden")) (.ref (He.ga K "BadRow")) = some false),
  decide (PySem.W.kitOne K (.ref (He.ga K "BadGarden")) (.ref (He.ga K "BadCalendar")) = some false),
  decide (PySem.W.kitOne K (.ref (He.ga K "BadGarden")) (.ref (He.ga K "BadDeed")) = some false),
  decide (PySem.W.kitOne K (.ref (He.ga K "BadGarden")) (.type "ValueError") = some true),
  exTB K (He.ga K "BadDay") (He.ma K (He.ga K "BadDay") "__init__"),
  decide (PySem.W.findIn K (.ref (He.ga K "BadDay")) "day" = some none),
  decide (PySem.W.exmOne K (.ref (He.ga K "BadDay")) (.ref (He.ga K "SeenError")) = some true),
  decide (PySem.W.kitOne K (.ref (He.ga K "BadDay")) (.ref (He.ga K "TooMany")) = some false),
  decide (PySem.W.kitOne K (.ref (He.ga K "BadDay")) (.ref (He.ga K "BadSky")) = some false),
  decide (PySem.W.kitOne K (.ref (He.ga K "BadDay")) (.ref (He.ga K "BadWeather")) = some false),
  decide (PySem.W.kitOne K (.ref (He.ga K "BadDay")) (.ref (He.ga K "BadReport")) = some false),
  decide (PySem.W.kitOne K (.ref (He.ga K "BadDay")) (.ref (He.ga K "BadGarden")) = some false),
  decide (PySem.W.kitOne K (.ref (He.ga K "BadDay")) (.ref (He.ga K "BadSetting")) = some false),
  decide (PySem.W.kitOne K (.ref (He.ga K "BadDay")) (.ref (He.ga K "BadHouse")) = some false),
  decide (PySem.W.kitOne K (.ref (He.ga K "BadDay")) (.ref (He.ga K "BadDay")) = some true),
  decide (PySem.W.kitOne K (.ref (He.ga K "BadDay")) (.ref (He.ga K "BadText")) = some false),
  decide (PySem.W.kitOne K (.ref (He.ga K "BadDay")) (.ref (He.ga K "NotKept")) = some false),
  decide (PySem.W.kitOne K (.ref (He.ga K "BadDay")) (.ref (He.ga K "Unsafe")) = some false),
  decide (PySem.W.kitOne K (.ref (He.ga K "BadDay")) (.ref (He.ga K "BadCalls")) = some false),
  decide (PySem.W.kitOne K (.ref (He.ga K "BadDay")) (.ref (He.ga K "BadOffers")) = some false),
  decide (PySem.W.kitOne K (.ref (He.ga K "BadDay")) (.ref (He.ga K "BadTable")) = some false),
  decide (PySem.W.kitOne K (.ref (He.ga K "BadDay")) (.ref (He.ga K "BadRow")) = some false),
  decide (PySem.W.kitOne K (.ref (He.ga K "BadDay")) (.ref (He.ga K "BadCalendar")) = some false),
  decide (PySem.W.kitOne K (.ref (He.ga K "BadDay")) (.ref (He.ga K "BadDeed")) = some false),
  decide (PySem.W.kitOne K (.ref (He.ga K "BadDay")) (.type "ValueError") = some true),
  exTB K (He.ga K "BadSetting") (He.ma K (He.ga K "BadSetting") "__init__"),
  decide (PySem.W.findIn K (.ref (He.ga K "BadSetting")) "what" = some none),
  decide (PySem.W.exmOne K (.ref (He.ga K "BadSetting")) (.ref (He.ga K "SeenError")) = some true),
  decide (PySem.W.kitOne K (.ref (He.ga K "BadSetting")) (.ref (He.ga K "TooMany")) = some false),
  decide (PySem.W.kitOne K (.ref (He.ga K "BadSetting")) (.ref (He.ga K "BadSky")) = some false),
  decide (PySem.W.kitOne K (.ref (He.ga K "BadSetting")) (.ref (He.ga K "BadWeather")) = some false),
  decide (PySem.W.kitOne K (.ref (He.ga K "BadSetting")) (.ref (He.ga K "BadReport")) = some false),
  decide (PySem.W.kitOne K (.ref (He.ga K "BadSetting")) (.ref (He.ga K "BadGarden")) = some false),
  decide (PySem.W.kitOne K (.ref (He.ga K "BadSetting")) (.ref (He.ga K "BadSetting")) = some true),
  decide (PySem.W.kitOne K (.ref (He.ga K "BadSetting")) (.ref (He.ga K "BadHouse")) = some false),
  decide (PySem.W.kitOne K (.ref (He.ga K "BadSetting")) (.ref (He.ga K "BadDay")) = some false),
  decide (PySem.W.kitOne K (.ref (He.ga K "BadSetting")) (.ref (He.ga K "BadText")) = some false),
  decide (PySem.W.kitOne K (.ref (He.ga K "BadSetting")) (.ref (He.ga K "NotKept")) = some false),
  decide (PySem.W.kitOne K (.ref (He.ga K "BadSetting")) (.ref (He.ga K "Unsafe")) = some false),
  decide (PySem.W.kitOne K (.ref (He.ga K "BadSetting")) (.ref (He.ga K "BadCalls")) = some false),
  decide (PySem.W.kitOne K (.ref (He.ga K "BadSetting")) (.ref (He.ga K "BadOffers")) = some false),
  decide (PySem.W.kitOne K (.ref (He.ga K "BadSetting")) (.ref (He.ga K "BadTable")) = some false),
  decide (PySem.W.kitOne K (.ref (He.ga K "BadSetting")) (.ref (He.ga K "BadRow")) = some false),
  decide (PySem.W.kitOne K (.ref (He.ga K "BadSetting")) (.ref (He.ga K "BadCalendar")) = some false),
  decide (PySem.W.kitOne K (.ref (He.ga K "BadSetting")) (.ref (He.ga K "BadDeed")) = some false),
  decide (PySem.W.kitOne K (.ref (He.ga K "BadSetting")) (.type "ValueError") = some true),
  decide ((tf.map fun p => (He.cT K p).2).Nodup)]
def ex (K : PySem.W.Frag) : Bool := (exs K).all id
abbrev hk : PySem.W.Hook := He.hookS 5 fa fn [(fun K => He.ga K "LIMITS", limKeys)] tf ex
def ob (s : PySem.W.SharedT) : He.AlX := He.obsS 5 fa fn [(fun K => He.ga K "LIMITS", limKeys)] tf ex (HandSHeadRun.getT s)
theorem ob_eq (s : PySem.W.SharedT) : ob s = hk.obs s.abs := He.obsS_eq (HandSHeadRun.getT_eq s)
/-- what the head tells of the written part -/
structure Txt (w : World) (K : PySem.W.Frag) (mg : Str → Option Value) : Prop where
  ex : ∃ h, K.In h ∧ h.Ns mainGlobals mg ∧ He.SaysX fa fn [(fun K => He.ga K "LIMITS", limKeys)] tf ex w h K
section
variable {w : World} {K : PySem.W.Frag} {mg : Str → Option Value}
theorem Txt.df (T : Txt w K mg) (i j : Nat) {d : He.DefD} (hd : d.dfl = []) (hk : d.kwd = []) (h : fn[i]? = some d) (x : Str) (hx : d.at_ = (x, none)) (hg : fa[j]? = some (.glo x)) : ∃ f fd, FunD K d.name d.qual d.params d.body d.scope [] [] f fd ∧ mg x = some (.ref f) := by
  obtain ⟨h0, X, G, c⟩ := T.ex
  obtain ⟨fd, F⟩ := c.t.d.defs (List.mem_of_getElem? h)
  have e1 : d.dvs K = [] := by unfold He.DefD.dvs; rw [hd]; rfl
  have e2 : d.kws K = [] := by unfold He.DefD.kws; rw [hk]; rfl
  rw [e1, e2, hx] at F
  exact ⟨_, fd, F, He.glo_ok X G (c.t.d.facts (List.mem_of_getElem? hg))⟩
theorem Txt.dm (T : Txt w K mg) (i : Nat) {d : He.DefD} (hd : d.dfl = []) (hk : d.kwd = []) (h : fn[i]? = some d) : ∃ fd, FunD K d.name d.qual d.params d.body d.scope [] [] (He.fAd K d.at_) fd := by
  obtain ⟨h0, X, G, c⟩ := T.ex
  obtain ⟨fd, F⟩ := c.t.d.defs (List.mem_of_getElem? h)
  have e1 : d.dvs K = [] := by unfold He.DefD.dvs; rw [hd]; rfl
  have e2 : d.kws K = [] := by unfold He.DefD.kws; rw [hk]; rfl
  rw [e1, e2] at F
  exact ⟨fd, F⟩
theorem Txt.gl (T : Txt w K mg) (j : Nat) (x : Str) (hg : fa[j]? = some (.glo x)) : mg x = some (.ref (He.ga K x)) := by
  obtain ⟨h0, X, G, c⟩ := T.ex
  exact He.glo_ok X G (c.t.d.facts (List.mem_of_getElem? hg))
theorem Txt.fr (T : Txt w K mg) (j : Nat) (x : Str) (hg : fa[j]? = some (.free x)) : mg x = none := by
  obtain ⟨h0, X, G, c⟩ := T.ex
  exact He.free_ok X G (c.t.d.facts (List.mem_of_getElem? hg))
theorem Txt.fact (T : Txt w K mg) (j : Nat) {f : He.Fa} (hg : fa[j]? = some f) : f.ok K = true := by
  obtain ⟨h0, X, G, c⟩ := T.ex
  exact c.t.d.facts (List.mem_of_getElem? hg)
theorem Txt.x (T : Txt w K mg) (i : Nat) {b : Bool} (h : (exs K)[i]? = some b) : b = true := by
  obtain ⟨h0, X, G, c⟩ := T.ex
  exact List.all_eq_true.mp c.more b (List.mem_of_getElem? h)
theorem f_check (T : Txt w K mg) : ∃ f fd, FnP K "check" s_check f fd ∧ mg "check" = some (.ref f) := T.df 0 0 (d := d_check) rfl rfl rfl "check" rfl rfl
theorem f_check_ditch (T : Txt w K mg) : ∃ f fd, FnP K "check_ditch" s_check_ditch f fd ∧ mg "check_ditch" = some (.ref f) := T.df 1 1 (d := d_check_ditch) rfl rfl rfl "check_ditch" rfl rfl
theorem f_check_day (T : Txt w K mg) : ∃ f fd, FnP K "check_day" s_check_day f fd ∧ mg "check_day" = some (.ref f) := T.df 2 2 (d := d_check_day) rfl rfl rfl "check_day" rfl rfl
theorem f_check_stretch (T : Txt w K mg) : ∃ f fd, FnP K "check_stretch" s_check_stretch f fd ∧ mg "check_stretch" = some (.ref f) := T.df 3 3 (d := d_check_stretch) rfl rfl rfl "check_stretch" rfl rfl
theorem f_check_ditch_sign (T : Txt w K mg) : ∃ f fd, FnP K "check_ditch_sign" s_check_ditch_sign f fd ∧ mg "check_ditch_sign" = some (.ref f) := T.df 4 4 (d := d_check_ditch_sign) rfl rfl rfl "check_ditch_sign" rfl rfl
theorem f_count_grid (T : Txt w K mg) : ∃ f fd, FnP K "count_grid" s_count_grid f fd ∧ mg "count_grid" = some (.ref f) := T.df 5 5 (d := d_count_grid) rfl rfl rfl "count_grid" rfl rfl
theorem f_first_unfit (T : Txt w K mg) : ∃ f fd, FnP K "first_unfit" s_first_unfit f fd ∧ mg "first_unfit" = some (.ref f) := T.df 6 6 (d := d_first_unfit) rfl rfl rfl "first_unfit" rfl rfl
theorem f_due_rows (T : Txt w K mg) : ∃ f fd, FnP K "due_rows" s_due_rows f fd ∧ mg "due_rows" = some (.ref f) := T.df 7 7 (d := d_due_rows) rfl rfl rfl "due_rows" rfl rfl
theorem f_catch_day (T : Txt w K mg) : ∃ f fd, FnP K "catch_day" s_catch_day f fd ∧ mg "catch_day" = some (.ref f) := T.df 8 8 (d := d_catch_day) rfl rfl rfl "catch_day" rfl rfl
theorem f_due_table (T : Txt w K mg) : ∃ f fd, FnP K "due_table" s_due_table f fd ∧ mg "due_table" = some (.ref f) := T.df 9 9 (d := d_due_table) rfl rfl rfl "due_table" rfl rfl
theorem f__law_b_told (T : Txt w K mg) : ∃ f fd, FnP K "_law_b_told" s__law_b_told f fd ∧ mg "_law_b_told" = some (.ref f) := T.df 10 10 (d := d__law_b_told) rfl rfl rfl "_law_b_told" rfl rfl
theorem f__law_b_refused (T : Txt w K mg) : ∃ f fd, FnP K "_law_b_refused" s__law_b_refused f fd ∧ mg "_law_b_refused" = some (.ref f) := T.df 11 11 (d := d__law_b_refused) rfl rfl rfl "_law_b_refused" rfl rfl
theorem f__law_b_windows (T : Txt w K mg) : ∃ f fd, FnP K "_law_b_windows" s__law_b_windows f fd ∧ mg "_law_b_windows" = some (.ref f) := T.df 12 12 (d := d__law_b_windows) rfl rfl rfl "_law_b_windows" rfl rfl
theorem f__law_stock (T : Txt w K mg) : ∃ f fd, FnP K "_law_stock" s__law_stock f fd ∧ mg "_law_stock" = some (.ref f) := T.df 13 13 (d := d__law_stock) rfl rfl rfl "_law_stock" rfl rfl
theorem f__law_draw (T : Txt w K mg) : ∃ f fd, FnP K "_law_draw" s__law_draw f fd ∧ mg "_law_draw" = some (.ref f) := T.df 14 14 (d := d__law_draw) rfl rfl rfl "_law_draw" rfl rfl
theorem f__law_matches (T : Txt w K mg) : ∃ f fd, FnP K "_law_matches" s__law_matches f fd ∧ mg "_law_matches" = some (.ref f) := T.df 15 15 (d := d__law_matches) rfl rfl rfl "_law_matches" rfl rfl
theorem f__law_k05_counts (T : Txt w K mg) : ∃ f fd, FnP K "_law_k05_counts" s__law_k05_counts f fd ∧ mg "_law_k05_counts" = some (.ref f) := T.df 16 16 (d := d__law_k05_counts) rfl rfl rfl "_law_k05_counts" rfl rfl
theorem f__law_k05_least_fit (T : Txt w K mg) : ∃ f fd, FnP K "_law_k05_least_fit" s__law_k05_least_fit f fd ∧ mg "_law_k05_least_fit" = some (.ref f) := T.df 17 17 (d := d__law_k05_least_fit) rfl rfl rfl "_law_k05_least_fit" rfl rfl
theorem f__law_k05_unfit (T : Txt w K mg) : ∃ f fd, FnP K "_law_k05_unfit" s__law_k05_unfit f fd ∧ mg "_law_k05_unfit" = some (.ref f) := T.df 18 18 (d := d__law_k05_unfit) rfl rfl rfl "_law_k05_unfit" rfl rfl
theorem f__law_k05_due (T : Txt w K mg) : ∃ f fd, FnP K "_law_k05_due" s__law_k05_due f fd ∧ mg "_law_k05_due" = some (.ref f) := T.df 19 19 (d := d__law_k05_due) rfl rfl rfl "_law_k05_due" rfl rfl
theorem f__law_k05_catch (T : Txt w K mg) : ∃ f fd, FnP K "_law_k05_catch" s__law_k05_catch f fd ∧ mg "_law_k05_catch" = some (.ref f) := T.df 20 20 (d := d__law_k05_catch) rfl rfl rfl "_law_k05_catch" rfl rfl
theorem f__law_k05_fit (T : Txt w K mg) : ∃ f fd, FnP K "_law_k05_fit" s__law_k05_fit f fd ∧ mg "_law_k05_fit" = some (.ref f) := T.df 21 21 (d := d__law_k05_fit) rfl rfl rfl "_law_k05_fit" rfl rfl
theorem f__law_k05_days (T : Txt w K mg) : ∃ f fd, FnP K "_law_k05_days" s__law_k05_days f fd ∧ mg "_law_k05_days" = some (.ref f) := T.df 22 22 (d := d__law_k05_days) rfl rfl rfl "_law_k05_days" rfl rfl
theorem f__law_k05_unfit_asked (T : Txt w K mg) : ∃ f fd, FnP K "_law_k05_unfit_asked" s__law_k05_unfit_asked f fd ∧ mg "_law_k05_unfit_asked" = some (.ref f) := T.df 23 23 (d := d__law_k05_unfit_asked) rfl rfl rfl "_law_k05_unfit_asked" rfl rfl
theorem f__law_k05_beyond (T : Txt w K mg) : ∃ f fd, FnP K "_law_k05_beyond" s__law_k05_beyond f fd ∧ mg "_law_k05_beyond" = some (.ref f) := T.df 24 24 (d := d__law_k05_beyond) rfl rfl rfl "_law_k05_beyond" rfl rfl
theorem f_law (T : Txt w K mg) : ∃ f fd, FnP K "law" s_law f fd ∧ mg "law" = some (.ref f) := T.df 25 25 (d := d_law) rfl rfl rfl "law" rfl rfl
theorem fi_TooMany (T : Txt w K mg) : ∃ fd, FnM K "__init__" "TooMany.__init__" s_TooMany___init__ (He.ma K (He.ga K "TooMany") "__init__") fd := T.dm 26 (d := d_TooMany___init__) rfl rfl rfl
theorem fi_BadGarden (T : Txt w K mg) : ∃ fd, FnM K "__init__" "BadGarden.__init__" s_BadGarden___init__ (He.ma K (He.ga K "BadGarden") "__init__") fd := T.dm 27 (d := d_BadGarden___init__) rfl rfl rfl
theorem fi_BadDay (T : Txt w K mg) : ∃ fd, FnM K "__init__" "BadDay.__init__" s_BadDay___init__ (He.ma K (He.ga K "BadDay") "__init__") fd := T.dm 28 (d := d_BadDay___init__) rfl rfl rfl
theorem fi_BadSetting (T : Txt w K mg) : ∃ fd, FnM K "__init__" "BadSetting.__init__" s_BadSetting___init__ (He.ma K (He.ga K "BadSetting") "__init__") fd := T.dm 29 (d := d_BadSetting___init__) rfl rfl rfl
theorem fm_Garden___init__ (T : Txt w K mg) : ∃ fd, FnM K "__init__" "Garden.__init__" s_Garden___init__ (He.ma K (He.ga K "Garden") "__init__") fd := T.dm 30 (d := d_Garden___init__) rfl rfl rfl
theorem fm_Garden_rows (T : Txt w K mg) : ∃ fd, FnM K "rows" "Garden.rows" s_Garden_rows (He.ma K (He.ga K "Garden") "rows") fd := T.dm 31 (d := d_Garden_rows) rfl rfl rfl
theorem fm_Garden_unfit (T : Txt w K mg) : ∃ fd, FnM K "unfit" "Garden.unfit" s_Garden_unfit (He.ma K (He.ga K "Garden") "unfit") fd := T.dm 32 (d := d_Garden_unfit) rfl rfl rfl
theorem fm_Garden_check_fit (T : Txt w K mg) : ∃ fd, FnM K "check_fit" "Garden.check_fit" s_Garden_check_fit (He.ma K (He.ga K "Garden") "check_fit") fd := T.dm 33 (d := d_Garden_check_fit) rfl rfl rfl
theorem fm_Garden_due_grid (T : Txt w K mg) : ∃ fd, FnM K "due_grid" "Garden.due_grid" s_Garden_due_grid (He.ma K (He.ga K "Garden") "due_grid") fd := T.dm 34 (d := d_Garden_due_grid) rfl rfl rfl
theorem fm_Garden_dues (T : Txt w K mg) : ∃ fd, FnM K "dues" "Garden.dues" s_Garden_dues (He.ma K (He.ga K "Garden") "dues") fd := T.dm 35 (d := d_Garden_dues) rfl rfl rfl
theorem fm_Garden_catch (T : Txt w K mg) : ∃ fd, FnM K "catch" "Garden.catch" s_Garden_catch (He.ma K (He.ga K "Garden") "catch") fd := T.dm 36 (d := d_Garden_catch) rfl rfl rfl
theorem g_SeenError (T : Txt w K mg) : mg "SeenError" = some (.ref (He.ga K "SeenError")) := T.gl 26 "SeenError" rfl
theorem g_TooMany (T : Txt w K mg) : mg "TooMany" = some (.ref (He.ga K "TooMany")) := T.gl 27 "TooMany" rfl
theorem g_BadSky (T : Txt w K mg) : mg "BadSky" = some (.ref (He.ga K "BadSky")) := T.gl 28 "BadSky" rfl
theorem g_BadWeather (T : Txt w K mg) : mg "BadWeather" = some (.ref (He.ga K "BadWeather")) := T.gl 29 "BadWeather" rfl
theorem g_BadReport (T : Txt w K mg) : mg "BadReport" = some (.ref (He.ga K "BadReport")) := T.gl 30 "BadReport" rfl
theorem g_BadGarden (T : Txt w K mg) : mg "BadGarden" = some (.ref (He.ga K "BadGarden")) := T.gl 31 "BadGarden" rfl
theorem g_BadSetting (T : Txt w K mg) : mg "BadSetting" = some (.ref (He.ga K "BadSetting")) := T.gl 32 "BadSetting" rfl
theorem g_BadHouse (T : Txt w K mg) : mg "BadHouse" = some (.ref (He.ga K "BadHouse")) := T.gl 33 "BadHouse" rfl
theorem g_BadDay (T : Txt w K mg) : mg "BadDay" = some (.ref (He.ga K "BadDay")) := T.gl 34 "BadDay" rfl
theorem g_BadText (T : Txt w K mg) : mg "BadText" = some (.ref (He.ga K "BadText")) := T.gl 35 "BadText" rfl
theorem g_NotKept (T : Txt w K mg) : mg "NotKept" = some (.ref (He.ga K "NotKept")) := T.gl 36 "NotKept" rfl
theorem g_Unsafe (T : Txt w K mg) : mg "Unsafe" = some (.ref (He.ga K "Unsafe")) := T.gl 37 "Unsafe" rfl
theorem g_BadCalls (T : Txt w K mg) : mg "BadCalls" = some (.ref (He.ga K "BadCalls")) := T.gl 38 "BadCalls" rfl
theorem g_BadOffers (T : Txt w K mg) : mg "BadOffers" = some (.ref (He.ga K "BadOffers")) := T.gl 39 "BadOffers" rfl
theorem g_BadTable (T : Txt w K mg) : mg "BadTable" = some (.ref (He.ga K "BadTable")) := T.gl 40 "BadTable" rfl
theorem g_BadRow (T : Txt w K mg) : mg "BadRow" = some (.ref (He.ga K "BadRow")) := T.gl 41 "BadRow" rfl
theorem g_BadCalendar (T : Txt w K mg) : mg "BadCalendar" = some (.ref (He.ga K "BadCalendar")) := T.gl 42 "BadCalendar" rfl
theorem g_BadDeed (T : Txt w K mg) : mg "BadDeed" = some (.ref (He.ga K "BadDeed")) := T.gl 43 "BadDeed" rfl
theorem g_Garden (T : Txt w K mg) : mg "Garden" = some (.ref (He.ga K "Garden")) := T.gl 44 "Garden" rfl
theorem g_LIMITS (T : Txt w K mg) : mg "LIMITS" = some (.ref (He.ga K "LIMITS")) := T.gl 45 "LIMITS" rfl
theorem n_len (T : Txt w K mg) : mg "len" = none := T.fr 46 "len" rfl
theorem n_max (T : Txt w K mg) : mg "max" = none := T.fr 47 "max" rfl
theorem n_min (T : Txt w K mg) : mg "min" = none := T.fr 48 "min" rfl
theorem n_list (T : Txt w K mg) : mg "list" = none := T.fr 49 "list" rfl
theorem n_int (T : Txt w K mg) : mg "int" = none := T.fr 50 "int" rfl
theorem n_abs (T : Txt w K mg) : mg "abs" = none := T.fr 51 "abs" rfl
theorem n_sum (T : Txt w K mg) : mg "sum" = none := T.fr 52 "sum" rfl
theorem n_isinstance (T : Txt w K mg) : mg "isinstance" = none := T.fr 53 "isinstance" rfl
theorem n_range (T : Txt w K mg) : mg "range" = none := T.fr 54 "range" rfl
theorem n_bool (T : Txt w K mg) : mg "bool" = none := T.fr 55 "bool" rfl
theorem n_str (T : Txt w K mg) : mg "str" = none := T.fr 56 "str" rfl
theorem n_dict (T : Txt w K mg) : mg "dict" = none := T.fr 57 "dict" rfl
theorem n_tuple (T : Txt w K mg) : mg "tuple" = none := T.fr 58 "tuple" rfl
theorem n_ValueError (T : Txt w K mg) : mg "ValueError" = none := T.fr 59 "ValueError" rfl
theorem cl_Garden (T : Txt w K mg) : Cls K (He.ga K "Garden") := He.cls_ok (T.fact 60 rfl)
theorem mk_Garden (T : Txt w K mg) : Mk K (He.ga K "Garden") (He.ma K (He.ga K "Garden") "__init__") := He.mkr_ok (T.fact 61 rfl)
theorem na_Garden_days_number (T : Txt w K mg) : NoAttr K (He.ga K "Garden") "days_number" := He.noat_ok (T.fact 62 rfl)
theorem na_Garden_seed_list (T : Txt w K mg) : NoAttr K (He.ga K "Garden") "seed_list" := He.noat_ok (T.fact 63 rfl)
theorem me_Garden_rows (T : Txt w K mg) : Meth K (He.ga K "Garden") "rows" (He.ma K (He.ga K "Garden") "rows") := He.meth_ok (T.fact 64 rfl)
theorem me_Garden_unfit (T : Txt w K mg) : Meth K (He.ga K "Garden") "unfit" (He.ma K (He.ga K "Garden") "unfit") := He.meth_ok (T.fact 65 rfl)
theorem me_Garden_check_fit (T : Txt w K mg) : Meth K (He.ga K "Garden") "check_fit" (He.ma K (He.ga K "Garden") "check_fit") := He.meth_ok (T.fact 66 rfl)
theorem me_Garden_due_grid (T : Txt w K mg) : Meth K (He.ga K "Garden") "due_grid" (He.ma K (He.ga K "Garden") "due_grid") := He.meth_ok (T.fact 67 rfl)
theorem me_Garden_dues (T : Txt w K mg) : Meth K (He.ga K "Garden") "dues" (He.ma K (He.ga K "Garden") "dues") := He.meth_ok (T.fact 68 rfl)
theorem me_Garden_catch (T : Txt w K mg) : Meth K (He.ga K "Garden") "catch" (He.ma K (He.ga K "Garden") "catch") := He.meth_ok (T.fact 69 rfl)
theorem lim (T : Txt w K mg) {z : Str} {n : Int} (hz : (z, He.Dv.int n) ∈ limits) : KDct K w (He.ga K "LIMITS") z (.int n) := by
  have hv := T.x 0 rfl
  obtain ⟨h0, X, G, c⟩ := T.ex
  obtain ⟨es, m, hl, hk, hs⟩ := c.t.tab 0 rfl
  obtain ⟨u, hu, hr⟩ := He.valsB_ok hv hz
  exact ⟨es, m, u, hl, hk, hu, hr⟩
theorem se (T : Txt w K mg) : SeTxt K (He.ga K "SeenError") := seB_ok (T.x 1 rfl)
theorem xt_TooMany (T : Txt w K mg) : ExT K (He.ga K "TooMany") (He.ma K (He.ga K "TooMany") "__init__") := exTB_ok (T.x 2 rfl)
theorem xn_TooMany_what (T : Txt w K mg) : PySem.W.findIn K (.ref (He.ga K "TooMany")) "what" = some none := of_decide_eq_true (T.x 3 rfl)
theorem xs_TooMany (T : Txt w K mg) : PySem.W.exmOne K (.ref (He.ga K "TooMany")) (.ref (He.ga K "SeenError")) = some true := of_decide_eq_true (T.x 4 rfl)
theorem xk_TooMany_TooMany (T : Txt w K mg) : PySem.W.kitOne K (.ref (He.ga K "TooMany")) (.ref (He.ga K "TooMany")) = some true := of_decide_eq_true (T.x 5 rfl)
theorem xk_TooMany_BadSky (T : Txt w K mg) : PySem.W.kitOne K (.ref (He.ga K "TooMany")) (.ref (He.ga K "BadSky")) = some false := of_decide_eq_true (T.x 6 rfl)
theorem xk_TooMany_BadWeather (T : Txt w K mg) : PySem.W.kitOne K (.ref (He.ga K "TooMany")) (.ref (He.ga K "BadWeather")) = some false := of_decide_eq_true (T.x 7 rfl)
theorem xk_TooMany_BadReport (T : Txt w K mg) : PySem.W.kitOne K (.ref (He.ga K "TooMany")) (.ref (He.ga K "BadReport")) = some false := of_decide_eq_true (T.x 8 rfl)
theorem xk_TooMany_BadGarden (T : Txt w K mg) : PySem.W.kitOne K (.ref (He.ga K "TooMany")) (.ref (He.ga K "BadGarden")) = some false := of_decide_eq_true (T.x 9 rfl)
theorem xk_TooMany_BadSetting (T : Txt w K mg) : PySem.W.kitOne K (.ref (He.ga K "TooMany")) (.ref (He.ga K "BadSetting")) = some false := of_decide_eq_true (T.x 10 rfl)
theorem xk_TooMany_BadHouse (T : Txt w K mg) : PySem.W.kitOne K (.ref (He.ga K "TooMany")) (.ref (He.ga K "BadHouse")) = some false := of_decide_eq_true (T.x 11 rfl)
theorem xk_TooMany_BadDay (T : Txt w K mg) : PySem.W.kitOne K (.ref (He.ga K "TooMany")) (.ref (He.ga K "BadDay")) = some false := of_decide_eq_true (T.x 12 rfl)
theorem xk_TooMany_BadText (T : Txt w K mg) : PySem.W.kitOne K (.ref (He.ga K "TooMany")) (.ref (He.ga K "BadText")) = some false := of_decide_eq_true (T.x 13 rfl)
theorem xk_TooMany_NotKept (T : Txt w K mg) : PySem.W.kitOne K (.ref (He.ga K "TooMany")) (.ref (He.ga K "NotKept")) = some false := of_decide_eq_true (T.x 14 rfl)
theorem xk_TooMany_Unsafe (T : Txt w K mg) : PySem.W.kitOne K (.ref (He.ga K "TooMany")) (.ref (He.ga K "Unsafe")) = some false := of_decide_eq_true (T.x 15 rfl)
theorem xk_TooMany_BadCalls (T : Txt w K mg) : PySem.W.kitOne K (.ref (He.ga K "TooMany")) (.ref (He.ga K "BadCalls")) = some false := of_decide_eq_true (T.x 16 rfl)
theorem xk_TooMany_BadOffers (T : Txt w K mg) : PySem.W.kitOne K (.ref (He.ga K "TooMany")) (.ref (He.ga K "BadOffers")) = some false := of_decide_eq_true (T.x 17 rfl)
theorem xk_TooMany_BadTable (T : Txt w K mg) : PySem.W.kitOne K (.ref (He.ga K "TooMany")) (.ref (He.ga K "BadTable")) = some false := of_decide_eq_true (T.x 18 rfl)
theorem xk_TooMany_BadRow (T : Txt w K mg) : PySem.W.kitOne K (.ref (He.ga K "TooMany")) (.ref (He.ga K "BadRow")) = some false := of_decide_eq_true (T.x 19 rfl)
theorem xk_TooMany_BadCalendar (T : Txt w K mg) : PySem.W.kitOne K (.ref (He.ga K "TooMany")) (.ref (He.ga K "BadCalendar")) = some false := of_decide_eq_true (T.x 20 rfl)
theorem xk_TooMany_BadDeed (T : Txt w K mg) : PySem.W.kitOne K (.ref (He.ga K "TooMany")) (.ref (He.ga K "BadDeed")) = some false := of_decide_eq_true (T.x 21 rfl)
theorem xv_TooMany (T : Txt w K mg) : PySem.W.kitOne K (.ref (He.ga K "TooMany")) (.type "ValueError") = some true := of_decide_eq_true (T.x 22 rfl)
theorem xt_BadGarden (T : Txt w K mg) : ExT K (He.ga K "BadGarden") (He.ma K (He.ga K "BadGarden") "__init__") := exTB_ok (T.x 23 rfl)
theorem xn_BadGarden_row (T : Txt w K mg) : PySem.W.findIn K (.ref (He.ga K "BadGarden")) "row" = some none := of_decide_eq_true (T.x 24 rfl)
theorem xs_BadGarden (T : Txt w K mg) : PySem.W.exmOne K (.ref (He.ga K "BadGarden")) (.ref (He.ga K "SeenError")) = some true := of_decide_eq_true (T.x 25 rfl)
theorem xk_BadGarden_TooMany (T : Txt w K mg) : PySem.W.kitOne K (.ref (He.ga K "BadGarden")) (.ref (He.ga K "TooMany")) = some false := of_decide_eq_true (T.x 26 rfl)
theorem xk_BadGarden_BadSky (T : Txt w K mg) : PySem.W.kitOne K (.ref (He.ga K "BadGarden")) (.ref (He.ga K "BadSky")) = some false := of_decide_eq_true (T.x 27 rfl)
theorem xk_BadGarden_BadWeather (T : Txt w K mg) : PySem.W.kitOne K (.ref (He.ga K "BadGarden")) (.ref (He.ga K "BadWeather")) = some false := of_decide_eq_true (T.x 28 rfl)
theorem xk_BadGarden_BadReport (T : Txt w K mg) : PySem.W.kitOne K (.ref (He.ga K "BadGarden")) (.ref (He.ga K "BadReport")) = some false := of_decide_eq_true (T.x 29 rfl)
theorem xk_BadGarden_BadGarden (T : Txt w K mg) : PySem.W.kitOne K (.ref (He.ga K "BadGarden")) (.ref (He.ga K "BadGarden")) = some true := of_decide_eq_true (T.x 30 rfl)
theorem xk_BadGarden_BadSetting (T : Txt w K mg) : PySem.W.kitOne K (.ref (He.ga K "BadGarden")) (.ref (He.ga K "BadSetting")) = some false := of_decide_eq_true (T.x 31 rfl)
theorem xk_BadGarden_BadHouse (T : Txt w K mg) : PySem.W.kitOne K (.ref (He.ga K "BadGarden")) (.ref (He.ga K "BadHouse")) = some false := of_decide_eq_true (T.x 32 rfl)
theorem xk_BadGarden_BadDay (T : Txt w K mg) : PySem.W.kitOne K (.ref (He.ga K "BadGarden")) (.ref (He.ga K "BadDay")) = some false := of_decide_eq_true (T.x 33 rfl)
theorem xk_BadGarden_BadText (T : Txt w K mg) : PySem.W.kitOne K (.ref (He.ga K "BadGarden")) (.ref (He.ga K "BadText")) = some false := of_decide_eq_true (T.x 34 rfl)
theorem xk_BadGarden_NotKept (T : Txt w K mg) : PySem.W.kitOne K (.ref (He.ga K "BadGarden")) (.ref (He.ga K "NotKept")) = some false := of_decide_eq_true (T.x 35 rfl)
theorem xk_BadGarden_Unsafe (T : Txt w K mg) : PySem.W.kitOne K (.ref (He.ga K "BadGarden")) (.ref (He.ga K "Unsafe")) = some false := of_decide_eq_true (T.x 36 rfl)
theorem xk_BadGarden_BadCalls (T : Txt w K mg) : PySem.W.kitOne K (.ref (He.ga K "BadGarden")) (.ref (He.ga K "BadCalls")) = some false := of_decide_eq_true (T.x 37 rfl)
theorem xk_BadGarden_BadOffers (T : Txt w K mg) : PySem.W.kitOne K (.ref (He.ga K "BadGarden")) (.ref (He.ga K "BadOffers")) = some false := of_decide_eq_true (T.x 38 rfl)
theorem xk_BadGarden_BadTable (T : Txt w K mg) : PySem.W.kitOne K (.ref (He.ga K "BadGarden")) (.ref (He.ga K "BadTable")) = some false := of_decide_eq_true (T.x 39 rfl)
theorem xk_BadGarden_BadRow (T : Txt w K mg) : PySem.W.kitOne K (.ref (He.ga K "BadGarden")) (.ref (He.ga K "BadRow")) = some false := of_decide_eq_true (T.x 40 rfl)
theorem xk_BadGarden_BadCalendar (T : Txt w K mg) : PySem.W.kitOne K (.ref (He.ga K "BadGarden")) (.ref (He.ga K "BadCalendar")) = some false := of_decide_eq_true (T.x 41 rfl)
theorem xk_BadGarden_BadDeed (T : Txt w K mg) : PySem.W.kitOne K (.ref (He.ga K "BadGarden")) (.ref (He.ga K "BadDeed")) = some false := of_decide_eq_true (T.x 42 rfl)
theorem xv_BadGarden (T : Txt w K mg) : PySem.W.kitOne K (.ref (He.ga K "BadGarden")) (.type "ValueError") = some true := of_decide_eq_true (T.x 43 rfl)
theorem xt_BadDay (T : Txt w K mg) : ExT K (He.ga K "BadDay") (He.ma K (He.ga K "BadDay") "__init__") := exTB_ok (T.x 44 rfl)
theorem xn_BadDay_day (T : Txt w K mg) : PySem.W.findIn K (.ref (He.ga K "BadDay")) "day" = some none := of_decide_eq_true (T.x 45 rfl)
theorem xs_BadDay (T : Txt w K mg) : PySem.W.exmOne K (.ref (He.ga K "BadDay")) (.ref (He.ga K "SeenError")) = some true := of_decide_eq_true (T.x 46 rfl)
theorem xk_BadDay_TooMany (T : Txt w K mg) : PySem.W.kitOne K (.ref (He.ga K "BadDay")) (.ref (He.ga K "TooMany")) = some false := of_decide_eq_true (T.x 47 rfl)
theorem xk_BadDay_BadSky (T : Txt w K mg) : PySem.W.kitOne K (.ref (He.ga K "BadDay")) (.ref (He.ga K "BadSky")) = some false := of_decide_eq_true (T.x 48 rfl)
theorem xk_BadDay_BadWeather (T : Txt w K mg) : PySem.W.kitOne K (.ref (He.ga K "BadDay")) (.ref (He.ga K "BadWeather")) = some false := of_decide_eq_true (T.x 49 rfl)
theorem xk_BadDay_BadReport (T : Txt w K mg) : PySem.W.kitOne K (.ref (He.ga K "BadDay")) (.ref (He.ga K "BadReport")) = some false := of_decide_eq_true (T.x 50 rfl)
theorem xk_BadDay_BadGarden (T : Txt w K mg) : PySem.W.kitOne K (.ref (He.ga K "BadDay")) (.ref (He.ga K "BadGarden")) = some false := of_decide_eq_true (T.x 51 rfl)
theorem xk_BadDay_BadSetting (T : Txt w K mg) : PySem.W.kitOne K (.ref (He.ga K "BadDay")) (.ref (He.ga K "BadSetting")) = some false := of_decide_eq_true (T.x 52 rfl)
theorem xk_BadDay_BadHouse (T : Txt w K mg) : PySem.W.kitOne K (.ref (He.ga K "BadDay")) (.ref (He.ga K "BadHouse")) = some false := of_decide_eq_true (T.x 53 rfl)
theorem xk_BadDay_BadDay (T : Txt w K mg) : PySem.W.kitOne K (.ref (He.ga K "BadDay")) (.ref (He.ga K "BadDay")) = some true := of_decide_eq_true (T.x 54 rfl)
theorem xk_BadDay_BadText (T : Txt w K mg) : PySem.W.kitOne K (.ref (He.ga K "BadDay")) (.ref (He.ga K "BadText")) = some false := of_decide_eq_true (T.x 55 rfl)
theorem xk_BadDay_NotKept (T : Txt w K mg) : PySem.W.kitOne K (.ref (He.ga K "BadDay")) (.ref (He.ga K "NotKept")) = some false := of_decide_eq_true (T.x 56 rfl)
theorem xk_BadDay_Unsafe (T : Txt w K mg) : PySem.W.kitOne K (.ref (He.ga K "BadDay")) (.ref (He.ga K "Unsafe")) = some false := of_decide_eq_true (T.x 57 rfl)
theorem xk_BadDay_BadCalls (T : Txt w K mg) : PySem.W.kitOne K (.ref (He.ga K "BadDay")) (.ref (He.ga K "BadCalls")) = some false := of_decide_eq_true (T.x 58 rfl)
theorem xk_BadDay_BadOffers (T : Txt w K mg) : PySem.W.kitOne K (.ref (He.ga K "BadDay")) (.ref (He.ga K "BadOffers")) = some false := of_decide_eq_true (T.x 59 rfl)
theorem xk_BadDay_BadTable (T : Txt w K mg) : PySem.W.kitOne K (.ref (He.ga K "BadDay")) (.ref (He.ga K "BadTable")) = some false := of_decide_eq_true (T.x 60 rfl)
theorem xk_BadDay_BadRow (T : Txt w K mg) : PySem.W.kitOne K (.ref (He.ga K "BadDay")) (.ref (He.ga K "BadRow")) = some false := of_decide_eq_true (T.x 61 rfl)
theorem xk_BadDay_BadCalendar (T : Txt w K mg) : PySem.W.kitOne K (.ref (He.ga K "BadDay")) (.ref (He.ga K "BadCalendar")) = some false := of_decide_eq_true (T.x 62 rfl)
theorem xk_BadDay_BadDeed (T : Txt w K mg) : PySem.W.kitOne K (.ref (He.ga K "BadDay")) (.ref (He.ga K "BadDeed")) = some false := of_decide_eq_true (T.x 63 rfl)
theorem xv_BadDay (T : Txt w K mg) : PySem.W.kitOne K (.ref (He.ga K "BadDay")) (.type "ValueError") = some true := of_decide_eq_true (T.x 64 rfl)
theorem xt_BadSetting (T : Txt w K mg) : ExT K (He.ga K "BadSetting") (He.ma K (He.ga K "BadSetting") "__init__") := exTB_ok (T.x 65 rfl)
theorem xn_BadSetting_what (T : Txt w K mg) : PySem.W.findIn K (.ref (He.ga K "BadSetting")) "what" = some none := of_decide_eq_true (T.x 66 rfl)
theorem xs_BadSetting (T : Txt w K mg) : PySem.W.exmOne K (.ref (He.ga K "BadSetting")) (.ref (He.ga K "SeenError")) = some true := of_decide_eq_true (T.x 67 rfl)
theorem xk_BadSetting_TooMany (T : Txt w K mg) : PySem.W.kitOne K (.ref (He.ga K "BadSetting")) (.ref (He.ga K "TooMany")) = some false := of_decide_eq_true (T.x 68 rfl)
theorem xk_BadSetting_BadSky (T : Txt w K mg) : PySem.W.kitOne K (.ref (He.ga K "BadSetting")) (.ref (He.ga K "BadSky")) = some false := of_decide_eq_true (T.x 69 rfl)
theorem xk_BadSetting_BadWeather (T : Txt w K mg) : PySem.W.kitOne K (.ref (He.ga K "BadSetting")) (.ref (He.ga K "BadWeather")) = some false := of_decide_eq_true (T.x 70 rfl)
theorem xk_BadSetting_BadReport (T : Txt w K mg) : PySem.W.kitOne K (.ref (He.ga K "BadSetting")) (.ref (He.ga K "BadReport")) = some false := of_decide_eq_true (T.x 71 rfl)
theorem xk_BadSetting_BadGarden (T : Txt w K mg) : PySem.W.kitOne K (.ref (He.ga K "BadSetting")) (.ref (He.ga K "BadGarden")) = some false := of_decide_eq_true (T.x 72 rfl)
theorem xk_BadSetting_BadSetting (T : Txt w K mg) : PySem.W.kitOne K (.ref (He.ga K "BadSetting")) (.ref (He.ga K "BadSetting")) = some true := of_decide_eq_true (T.x 73 rfl)
theorem xk_BadSetting_BadHouse (T : Txt w K mg) : PySem.W.kitOne K (.ref (He.ga K "BadSetting")) (.ref (He.ga K "BadHouse")) = some false := of_decide_eq_true (T.x 74 rfl)
theorem xk_BadSetting_BadDay (T : Txt w K mg) : PySem.W.kitOne K (.ref (He.ga K "BadSetting")) (.ref (He.ga K "BadDay")) = some false := of_decide_eq_true (T.x 75 rfl)
theorem xk_BadSetting_BadText (T : Txt w K mg) : PySem.W.kitOne K (.ref (He.ga K "BadSetting")) (.ref (He.ga K "BadText")) = some false := of_decide_eq_true (T.x 76 rfl)
theorem xk_BadSetting_NotKept (T : Txt w K mg) : PySem.W.kitOne K (.ref (He.ga K "BadSetting")) (.ref (He.ga K "NotKept")) = some false := of_decide_eq_true (T.x 77 rfl)
theorem xk_BadSetting_Unsafe (T : Txt w K mg) : PySem.W.kitOne K (.ref (He.ga K "BadSetting")) (.ref (He.ga K "Unsafe")) = some false := of_decide_eq_true (T.x 78 rfl)
theorem xk_BadSetting_BadCalls (T : Txt w K mg) : PySem.W.kitOne K (.ref (He.ga K "BadSetting")) (.ref (He.ga K "BadCalls")) = some false := of_decide_eq_true (T.x 79 rfl)
theorem xk_BadSetting_BadOffers (T : Txt w K mg) : PySem.W.kitOne K (.ref (He.ga K "BadSetting")) (.ref (He.ga K "BadOffers")) = some false := of_decide_eq_true (T.x 80 rfl)
theorem xk_BadSetting_BadTable (T : Txt w K mg) : PySem.W.kitOne K (.ref (He.ga K "BadSetting")) (.ref (He.ga K "BadTable")) = some false := of_decide_eq_true (T.x 81 rfl)
theorem xk_BadSetting_BadRow (T : Txt w K mg) : PySem.W.kitOne K (.ref (He.ga K "BadSetting")) (.ref (He.ga K "BadRow")) = some false := of_decide_eq_true (T.x 82 rfl)
theorem xk_BadSetting_BadCalendar (T : Txt w K mg) : PySem.W.kitOne K (.ref (He.ga K "BadSetting")) (.ref (He.ga K "BadCalendar")) = some false := of_decide_eq_true (T.x 83 rfl)
theorem xk_BadSetting_BadDeed (T : Txt w K mg) : PySem.W.kitOne K (.ref (He.ga K "BadSetting")) (.ref (He.ga K "BadDeed")) = some false := of_decide_eq_true (T.x 84 rfl)
theorem xv_BadSetting (T : Txt w K mg) : PySem.W.kitOne K (.ref (He.ga K "BadSetting")) (.type "ValueError") = some true := of_decide_eq_true (T.x 85 rfl)
theorem tabs_nodup (T : Txt w K mg) : (tf.map fun p => (He.cT K p).2).Nodup := of_decide_eq_true (T.x 86 rfl)
theorem Txt.dl (T : Txt w K mg) (i j : Nat) {d : He.DefD} (hd : d.dfl = []) (hk : d.kwd = []) (h : fn[i]? = some d) (x : Str) (hx : d.at_ = (x, none)) (hg : fa[j]? = some (.glo x)) : ∃ f fd, FunD K d.name d.qual d.params d.body d.scope [] [] f fd ∧ mg x = some (.ref f) ∧ fd.code = .ref (He.codeOf K (x, none)) := by
  obtain ⟨h0, X, G, c⟩ := T.ex
  obtain ⟨fd, F⟩ := c.t.d.defs (List.mem_of_getElem? h)
  have e1 : d.dvs K = [] := by unfold He.DefD.dvs; rw [hd]; rfl
  have e2 : d.kws K = [] := by unfold He.DefD.kws; rw [hk]; rfl
  rw [e1, e2, hx] at F
  refine ⟨_, fd, F, He.glo_ok X G (c.t.d.facts (List.mem_of_getElem? hg)), ?_⟩
  obtain ⟨oc, od, dV, kV, doc, pm, an, cdv, ct, osl, e, lk, hcd, _, _⟩ := F.ex
  have e3 : fd.code = cdv := by rw [e]
  rw [e3]
  cases cdv with
  | ref a => rw [He.codeOf_eq lk e3]
  | _ => cases hcd
theorem fl__law_k05_days (T : Txt w K mg) : ∃ f fd, FnP K "_law_k05_days" s__law_k05_days f fd ∧ mg "_law_k05_days" = some (.ref f) ∧ fd.code = .ref (He.codeOf K ("_law_k05_days", none)) := T.dl 22 22 (d := d__law_k05_days) rfl rfl rfl "_law_k05_days" rfl rfl
theorem fl__law_k05_unfit_asked (T : Txt w K mg) : ∃ f fd, FnP K "_law_k05_unfit_asked" s__law_k05_unfit_asked f fd ∧ mg "_law_k05_unfit_asked" = some (.ref f) ∧ fd.code = .ref (He.codeOf K ("_law_k05_unfit_asked", none)) := T.dl 23 23 (d := d__law_k05_unfit_asked) rfl rfl rfl "_law_k05_unfit_asked" rfl rfl
theorem fl__law_k05_beyond (T : Txt w K mg) : ∃ f fd, FnP K "_law_k05_beyond" s__law_k05_beyond f fd ∧ mg "_law_k05_beyond" = some (.ref f) ∧ fd.code = .ref (He.codeOf K ("_law_k05_beyond", none)) := T.dl 24 24 (d := d__law_k05_beyond) rfl rfl rfl "_law_k05_beyond" rfl rfl
end
end K05
end
section
set_option maxRecDepth 100000
set_option maxHeartbeats 0
namespace K05
open PySem PySem.W PySem.Calls PySem.Spec PyProof.Rows L2
abbrev R : PySem.W.OpenRow := PySem.W.OpenLaw.row PySem.Challenge.rw_seenenough_k05_dues_and_catches
def loose1 : List PySem.Str := ["_wall", "SeenError", "TooMany", "BadSky", "BadWeather", "BadReport", "BadGarden", "BadSetting", "BadCalls", "BadOffers", "BadTable", "BadRow", "BadHouse", "BadCalendar", "NotKept", "Unsafe", "BadDay", "BadDeed", "BadText", "LIMITS"]
def loose2 : List PySem.Str := ["check", "check_ditch", "check_day", "check_stretch", "check_ditch_sign", "count_grid", "first_unfit", "due_rows", "catch_day", "due_table", "first_served", "Garden", "_law_b_told", "_law_b_refused", "_law_b_windows", "_law_stock", "_law_draw", "_law_matches", "_law_k05_counts", "_law_k05_least_fit", "_law_k05_unfit", "_law_k05_due", "_law_k05_catch", "_law_k05_fit", "_law_k05_days", "_law_k05_unfit_asked", "_law_k05_beyond"]
theorem runF (w : World) : HandSHeadRun.RunEq R (PySem.W.view R.prog [53]) hk ob 20000 (loose1 ++ loose2) (w.withFollow "special-get-raises" false) := by
  intro os
  kernel_rfl
theorem runT (w : World) : HandSHeadRun.RunEq R (PySem.W.view R.prog [53]) hk ob 20000 (loose1 ++ loose2) (w.withFollow "special-get-raises" true) := by
  intro os
  kernel_rfl
theorem run (w : World) : HandSHeadRun.RunEq R (PySem.W.view R.prog [53]) hk ob 20000 (loose1 ++ loose2) w :=
  byRow2 "special-get-raises" (P := fun w => HandSHeadRun.RunEq R (PySem.W.view R.prog [53]) hk ob 20000 (loose1 ++ loose2) w) runF runT w
end K05
end
section
set_option maxRecDepth 100000
set_option maxHeartbeats 4000000
namespace L2
open PySem PySem.Spec PyProof.Rows
/-! ### heaps that grow -/
theorem same_new {H : Hp} {p : Addr} {o : HO} (h : H p = none) : Same H (upd H p o) := fun b u e => by
  rw [upd_ne (ne_of_none e h)]
  exact e
theorem same_mut {H H' : Hp} {p : Addr} {o : HO} (e : Same H H') (h : H p = none) : Same H (upd H' p o) := fun b u hb => by
  rw [upd_ne (ne_of_none hb h)]
  exact e b u hb
theorem Same.tup {K : PySem.W.Frag} {H H' : Hp} {a : Addr} {xs : List V} (e : Same H H') (h : SqT K H a xs) : SqT K H' a xs := by
  rcases h with (h | ⟨o, h⟩) | h
  · exact .inl (.inl (e _ _ h))
  · exact .inl (.inr ⟨o, e _ _ h⟩)
  · exact .inr h
/-- a new object: the heap behind it as a letter -/
theorem newly {H : Hp} {o : HO} {Q : Addr → Hp → Prop} (h : ∀ p H', H p = none → Same H H' → H' p = some o → (∀ b, b ≠ p → H' b = H b) → Q p H') : ∀ p, H p = none → Q p (upd H p o) :=
  fun p hp => h p _ hp (same_new hp) upd_same fun b hb => upd_ne hb
/-- all but what stands at a is as it was -/
def But (a : Addr) (H H' : Hp) : Prop := ∀ b o, H b = some o → b ≠ a → H' b = some o
theorem But.refl (a : Addr) (H : Hp) : But a H H := fun _ _ h _ => h
theorem But.of {a : Addr} {H H' : Hp} (e : Same H H') : But a H H' := fun b o h _ => e b o h
theorem But.trans {a : Addr} {H H1 H2 : Hp} (e : But a H H1) (f : But a H1 H2) : But a H H2 := fun b o h n => f b o (e b o h n) n
theorem But.upd {a : Addr} {H H' : Hp} {o : HO} (e : But a H H') : But a H (upd H' a o) := fun b u h n => by
  rw [upd_ne n]
  exact e b u h n
theorem But.mut {a p : Addr} {H H' : Hp} {o : HO} (e : But a H H') (h : H p = none) : But a H (L2.upd H' p o) := fun b u hb n => by
  rw [upd_ne (ne_of_none hb h)]
  exact e b u hb n
theorem But.free {a : Addr} {H H' : Hp} (e : But a H H') (ha : H' a ≠ none) {l : Addr} (h : H' l = none) : H l = none := by
  cases q : H l with
  | none => rfl
  | some o =>
    by_cases hl : l = a
    · rw [hl] at h
      exact absurd h ha
    · rw [e l o q hl] at h
      cases h
theorem lst_ne {H : Hp} {a : Addr} {o : HO} {K : PySem.W.Frag} (x : H a = some o) : H a ≠ none := by rw [x]; exact fun z => by cases z
/-! ### an own exception raised -/
def spInit (C : Addr) (f : Str) : Sp := fun vs H Q _ => ∃ (a : Addr) (v : V), vs = [.ref a, v] ∧ H a = some (exo a C none) ∧
  ∀ dx, H dx = none → dx ≠ a → Q .non (upd (upd H dx (exd dx [(f, v)])) a (exo a C (some dx)))
theorem mko {C : Addr} {f : Str} {v : V} {H : Hp} {Q : XK} (h : ∀ d, H d = none → Q (.ref C) (some d) (upd H d (.xd [(f, v)]))) : ([v] : List V).length ≤ 1000 ∧ ∀ a, H a = none → spInit C f (.ref a :: ([v] ++ [])) (upd H a (exo a C none))
    (fun u H2 => u = .non ∧ ∃ (d : Addr) (fs : List (Str × V)), H2 a = some (exo a C (some d)) ∧ H2 d = some (exd d fs) ∧ H d = none ∧ Q (.ref C) (some d) (upd (del H2 a) d (.xd fs))) (fun _ _ _ => False) := by
  refine ⟨by show 1 ≤ 1000; decide, fun a ha => ⟨a, v, rfl, upd_same, fun dx hd hne => ⟨rfl, dx, [(f, v)], upd_same, by rw [upd_ne hne, upd_same], ?_, ?_⟩⟩⟩
  · rw [upd_ne hne] at hd
    exact hd
  · have hd' : H dx = none := by rw [upd_ne hne] at hd; exact hd
    have e : upd (del (upd (upd (upd H a (exo a C none)) dx (exd dx [(f, v)])) a (exo a C (some dx))) a) dx (.xd [(f, v)]) = upd H dx (.xd [(f, v)]) := by
      funext b
      by_cases hb : b = dx
      · rw [hb, upd_same, upd_same]
      · rw [upd_ne hb, upd_ne hb]
        by_cases hba : b = a
        · rw [hba, del_same, ha]
        · rw [del_ne hba, upd_ne hba, upd_ne hb, upd_ne hba]
    rw [e]
    exact h dx hd'
/-- E is told of an error of the class at C whose field f is v -/
def Rz (E : XK) (H : Hp) (C : Addr) (f : Str) (v : V) : Prop := ∀ d H', Same H H' → H' d = some (.xd [(f, v)]) → E (.ref C) (some d) H'
theorem Rz.at {E : XK} {H H1 : Hp} {C : Addr} {f : Str} {v : V} (r : Rz E H C f v) (e : Same H H1) : ∀ d, H1 d = none → E (.ref C) (some d) (upd H1 d (.xd [(f, v)])) := fun d hd => r d _ (e.trans (same_new hd)) upd_same
/-! ### statement by statement -/
theorem nxE {t : St → Hp → Prop} {r : VK} {b c : St → Hp → Prop} {σ : St} {H : Hp} (h : t σ H) : Ends.nx ⟨t, r, b, c⟩ σ H := h
/-- x = e, then the rest -/
theorem st_let {te : TE} {i : Nat} {t2 : TS} {D : Ends} {σ : St} {H : Hp} (PV : V → Hp → Prop) (h : ∀ R : VK, (∀ v H', PV v H' → R v H') → te σ H R) (q : ∀ v H', PV v H' → t2 D (σ.set i (some v)) H') : tSeq (tAsg te (gName i)) t2 D σ H := h _ q
/-! ### numbers -/
theorem ints_get {ns : List Int} {i : Nat} {x : V} (h : (ns.map V.int)[i]? = some x) : ∃ z, ns[i]? = some z ∧ x = V.int z := by
  rw [List.getElem?_map] at h
  cases e : ns[i]? with
  | none => rw [e] at h; cases h
  | some z => rw [e] at h; exact ⟨z, rfl, (Option.some.inj h).symm⟩
theorem ints_at {ns : List Int} {i : Nat} {z : Int} (h : ns[i]? = some z) : (ns.map V.int)[i]? = some (.int z) := by rw [List.getElem?_map, h]; rfl
theorem ints_len (ns : List Int) : (ns.map V.int).length = ns.length := List.length_map _
/-- an item by an int -/
theorem atI_int {α : Type} {xs : List α} {z : Int} {v : α} (h0 : 0 ≤ z) (h : xs[z.toNat]? = some v) : atI xs z = some v := by
  have e : z = ((z.toNat : Nat) : Int) := by omega
  rw [e]
  exact atI_nat h
theorem line_of {n : Nat} (h : n ≤ 100000) : n ≤ sizeLine := Nat.le_trans h (by decide)
theorem line_lt {n : Nat} (h : n < 100000) : n < sizeLine := Nat.lt_of_lt_of_le h (by decide)
end L2
end
section
set_option maxRecDepth 100000
set_option maxHeartbeats 4000000
namespace L2
open PySem PySem.Spec PyProof.Rows
/-! ### comprehensions by what is made so far -/
section
variable {K : PySem.W.Frag} {a D : Addr} {xs : List V} {g : TG} {tt : TT} {te : TE} {vs : List Nat} {σ : St} {H1 : Hp} {Q : Hp → Prop}
theorem lc_acc (hD : H1 D = none) (hS : SqL K H1 a xs) (hz : xs.length < 100000) (Acc : Nat → List V → Hp → Prop) (h0 : ∀ H', Same H1 H' → Acc 0 [] H')
    (hs : ∀ i x acc H' (N : V → Hp → Prop) (N0 : Hp → Prop), xs[i]? = some x → Same H1 H' → H' D = some (.lst acc) → Acc i acc H' →
      (∀ y H4, Same H' H4 → (∀ H5, But D H4 H5 → H5 D = some (.lst (acc ++ [y])) → Acc (i + 1) (acc ++ [y]) H5) → N y H4) → (∀ H3, Same H' H3 → Acc (i + 1) acc H3 → N0 H3) →
      g x (wipe σ vs) H' fun σ2 H2 => wipe σ2 vs = wipe σ vs ∧ tt σ2 H2 fun b H3 => if b = true then te σ2 H3 N else N0 H3)
    (hd : ∀ acc H', Same H1 H' → H' D = some (.lst acc) → acc.length ≤ xs.length → Acc xs.length acc H' → Q H') :
    ∃ W : Nat → Nat → Hp → Prop, (∃ m, W 0 m (upd H1 D (.lst []))) ∧ ∀ i m H, W i m H →
      ((Itl K a).stop i H ∧ Q H) ∨ ((Itl K a).go i H ∧ ∃ Nx : Hp → Prop, (∀ H', Nx H' → ∃ m', m' < m ∧ W (i + 1) m' H') ∧ ∀ x H', (Itl K a).yld i H x H' → g x (wipe σ vs) H' fun σ2 H2 => wipe σ2 vs = wipe σ vs ∧ tt σ2 H2 fun b H3 =>
        if b = true then te σ2 H3 fun y H4 => ∃ acc, H4 D = some (.lst acc) ∧ acc.length < sizeLine ∧ Nx (upd H4 D (.lst (acc ++ [y]))) else Nx H3) := by
  refine lc_list (K := K) (a := a) (xs := xs) (fun i H' => Same H1 H' ∧ ∃ acc, H' D = some (.lst acc) ∧ acc.length ≤ i ∧ Acc i acc H') ⟨same_new hD, [], upd_same, Nat.le_refl _, h0 _ (same_new hD)⟩ (fun i H' _ h => h.1.seq hS) ?_ ?_
  · rintro i x H' hx ⟨e, acc, hacc, hl, ha⟩
    have hi : i < xs.length := (List.getElem?_eq_some_iff.mp hx).1
    refine hs i x acc H' _ _ hx e hacc ha (fun y H4 s4 a4 => ?_) (fun H3 s3 a3 => ?_)
    · exact ⟨acc, s4 _ _ hacc, line_lt (by omega), same_mut (e.trans s4) hD, acc ++ [y], upd_same, by rw [List.length_append]; exact Nat.succ_le_succ hl, a4 _ (fun b o hb n => by rw [upd_ne n]; exact hb) upd_same⟩
    · exact ⟨e.trans s3, acc, s3 _ _ hacc, Nat.le_succ_of_le hl, a3⟩
  · rintro H' ⟨e, acc, hacc, hl, ha⟩
    exact hd acc H' e hacc hl ha
theorem lc_accR {lo : Int} {n : Nat} (hD : H1 D = none) (hz : n < 100000) (Acc : Nat → List V → Hp → Prop) (h0 : ∀ H', Same H1 H' → Acc 0 [] H')
    (hs : ∀ i acc H' (N : V → Hp → Prop) (N0 : Hp → Prop), i < n → Same H1 H' → H' D = some (.lst acc) → Acc i acc H' →
      (∀ y H4, Same H' H4 → (∀ H5, But D H4 H5 → H5 D = some (.lst (acc ++ [y])) → Acc (i + 1) (acc ++ [y]) H5) → N y H4) → (∀ H3, Same H' H3 → Acc (i + 1) acc H3 → N0 H3) →
      g (.int (lo + i)) (wipe σ vs) H' fun σ2 H2 => wipe σ2 vs = wipe σ vs ∧ tt σ2 H2 fun b H3 => if b = true then te σ2 H3 N else N0 H3)
    (hd : ∀ acc H', Same H1 H' → H' D = some (.lst acc) → acc.length ≤ n → Acc n acc H' → Q H') :
    ∃ W : Nat → Nat → Hp → Prop, (∃ m, W 0 m (upd H1 D (.lst []))) ∧ ∀ i m H, W i m H →
      ((Itr lo n).stop i H ∧ Q H) ∨ ((Itr lo n).go i H ∧ ∃ Nx : Hp → Prop, (∀ H', Nx H' → ∃ m', m' < m ∧ W (i + 1) m' H') ∧ ∀ x H', (Itr lo n).yld i H x H' → g x (wipe σ vs) H' fun σ2 H2 => wipe σ2 vs = wipe σ vs ∧ tt σ2 H2 fun b H3 =>
        if b = true then te σ2 H3 fun y H4 => ∃ acc, H4 D = some (.lst acc) ∧ acc.length < sizeLine ∧ Nx (upd H4 D (.lst (acc ++ [y]))) else Nx H3) := by
  refine lc_range (lo := lo) (n := n) (fun i H' => Same H1 H' ∧ ∃ acc, H' D = some (.lst acc) ∧ acc.length ≤ i ∧ Acc i acc H') ⟨same_new hD, [], upd_same, Nat.le_refl _, h0 _ (same_new hD)⟩ ?_ ?_
  · rintro i H' hi ⟨e, acc, hacc, hl, ha⟩
    refine hs i acc H' _ _ hi e hacc ha (fun y H4 s4 a4 => ?_) (fun H3 s3 a3 => ?_)
    · exact ⟨acc, s4 _ _ hacc, line_lt (by omega), same_mut (e.trans s4) hD, acc ++ [y], upd_same, by rw [List.length_append]; exact Nat.succ_le_succ hl, a4 _ (fun b o hb n => by rw [upd_ne n]; exact hb) upd_same⟩
    · exact ⟨e.trans s3, acc, s3 _ _ hacc, Nat.le_succ_of_le hl, a3⟩
  · rintro H' ⟨e, acc, hacc, hl, ha⟩
    exact hd acc H' e hacc hl ha
end
theorem cutV_map {α : Type} (f : α → V) (ns : List α) (lo hi : Option Int) : ∃ ms : List α, cutV (ns.map f) lo hi = ms.map f ∧ ms = (ns.drop (HT.sIx ns.length 0 lo)).take (HT.sIx ns.length ns.length hi - HT.sIx ns.length 0 lo) := by
  refine ⟨_, ?_, rfl⟩
  unfold cutV
  rw [List.length_map, List.map_take, List.map_drop]
end L2
end
section
set_option maxRecDepth 100000
set_option maxHeartbeats 4000000
namespace L2
open PySem PySem.Spec PyProof.Rows
/-- for i, x in enumerate(list, start = k) -/
theorem for_enumS {K : PySem.W.Frag} {a : Addr} {xs : List V} {k : Int} {g : TG} {tb : TS} {D : Ends} {σ : St} {H : Hp} (Pv : Nat → St → Hp → Prop) (h0 : Pv 0 σ H) (hl : ∀ i σ H, i ≤ xs.length → Pv i σ H → SqL K H a xs)
    (hs : ∀ i x σ H T, xs[i]? = some x → Pv i σ H → H T = none → g (.ref T) σ (upd H T (.tup [.int (k + (i : Nat)), x])) fun σ2 H2 => tb { D with nx := Pv (i + 1), ct := Pv (i + 1), bk := D.nx } σ2 H2) (hd : ∀ σ H, Pv xs.length σ H → D.nx σ H) :
    ∃ W : Nat → Nat → St → Hp → Prop, (∃ m, W 0 m σ H) ∧ ∀ i m σ H, W i m σ H →
      ((IteS K a k).stop i H ∧ D.nx σ H) ∨ ((IteS K a k).go i H ∧ ∃ N : St → Hp → Prop, (∀ σ' H', N σ' H' → ∃ m', m' < m ∧ W (i + 1) m' σ' H') ∧ ∀ x H', (IteS K a k).yld i H x H' → g x σ H' fun σ2 H2 => tb { D with nx := N, ct := N, bk := D.nx } σ2 H2) := by
  refine ⟨fun i m σ H => m = xs.length - i ∧ i ≤ xs.length ∧ Pv i σ H, ⟨_, rfl, Nat.zero_le _, h0⟩, fun i m σ H w => ?_⟩
  obtain ⟨rfl, hi, p⟩ := w
  have q := hl i σ H hi p
  rcases Nat.lt_or_ge i xs.length with hlt | hge
  · refine .inr ⟨⟨xs, _, q, List.getElem?_eq_getElem hlt⟩, Pv (i + 1), fun σ' H' p' => ⟨xs.length - (i + 1), by omega, rfl, hlt, p'⟩, ?_⟩
    rintro x H' ⟨T, y, rfl, hT, rfl, hy⟩
    exact hs i y σ H T (hy xs q) p hT
  · have e : i = xs.length := by omega
    subst e
    exact .inl ⟨⟨xs, q, Nat.le_refl _⟩, hd σ H p⟩
theorem drop_get {α : Type} {l : List α} {i : Nat} {x : α} (h : l[i]? = some x) : l.drop i = x :: l.drop (i + 1) := by
  obtain ⟨hi, e⟩ := List.getElem?_eq_some_iff.mp h
  rw [List.drop_eq_getElem_cons hi, e]
theorem take_get {α : Type} {l : List α} {i : Nat} {x : α} (h : l[i]? = some x) : l.take (i + 1) = l.take i ++ [x] := by
  rw [List.take_succ, h]; rfl
/-! ### a pair of ints, list or tuple -/
def PairR (K : PySem.W.Frag) (H : Hp) (x : V) (c : Int × Int) : Prop := ∃ t, x = .ref t ∧ (SqT K H t [.int c.1, .int c.2] ∨ SqL K H t [.int c.1, .int c.2])
def PairsR (K : PySem.W.Frag) (H : Hp) : List V → List (Int × Int) → Prop := Paired (PairR K H)
theorem PairR.same {K : PySem.W.Frag} {H H' : Hp} (e : Same H H') {x : V} {c : Int × Int} (h : PairR K H x c) : PairR K H' x c := by
  obtain ⟨t, rfl, h | h⟩ := h
  · exact ⟨t, rfl, .inl (e.tup h)⟩
  · exact ⟨t, rfl, .inr (e.seq h)⟩
theorem PairsR.same {K : PySem.W.Frag} {H H' : Hp} (e : Same H H') {xs : List V} {cs : List (Int × Int)} (h : PairsR K H xs cs) : PairsR K H' xs cs := Paired.mapP h fun _ _ z => z.same e
theorem PairsR.get {K : PySem.W.Frag} {H : Hp} {xs : List V} {cs : List (Int × Int)} (h : PairsR K H xs cs) {i : Nat} {x : V} (hx : xs[i]? = some x) : ∃ c, cs[i]? = some c ∧ PairR K H x c := paired_get h hx
theorem PairsR.len {K : PySem.W.Frag} {H : Hp} {xs : List V} {cs : List (Int × Int)} (h : PairsR K H xs cs) : xs.length = cs.length := Paired.length h
/-- x[0], x[1] of such -/
theorem PairR.ix0 {K : PySem.W.Frag} {H : Hp} {x : V} {c : Int × Int} (h : PairR K H x c) {Q : VK} (q : Q (.int c.1) H) : rIx K x (.int 0) H Q := by
  obtain ⟨t, rfl, h | h⟩ := h
  · exact .inr (.inl ⟨t, _, 0, _, rfl, rfl, h, rfl, q⟩)
  · exact .inl ⟨t, _, 0, _, rfl, rfl, h, rfl, q⟩
theorem PairR.ix1 {K : PySem.W.Frag} {H : Hp} {x : V} {c : Int × Int} (h : PairR K H x c) {Q : VK} (q : Q (.int c.2) H) : rIx K x (.int 1) H Q := by
  obtain ⟨t, rfl, h | h⟩ := h
  · exact .inr (.inl ⟨t, _, 1, _, rfl, rfl, h, rfl, q⟩)
  · exact .inl ⟨t, _, 1, _, rfl, rfl, h, rfl, q⟩
/-- the slots behind a, b = such -/
theorem PairR.unpack {K : PySem.W.Frag} {H : Hp} {x : V} {c : Int × Int} (h : PairR K H x c) {σ : St} {i j : Nat} {Q : St → Hp → Prop} (q : Q ((σ.set i (some (.int c.1))).set j (some (.int c.2))) H) : gSeq K 2 (gCons (gName i) (gCons (gName j) gNil)) x σ H Q := by
  obtain ⟨t, rfl, h | h⟩ := h
  · exact .inl ⟨t, _, rfl, h, rfl, _, _, rfl, _, _, rfl, rfl, q⟩
  · exact .inr ⟨t, _, rfl, h, rfl, _, _, rfl, _, _, rfl, rfl, q⟩
end L2
namespace L2
open PySem PySem.Spec PyProof.Rows
/-! ### rules with the written part named (within comprehensions) -/
section
variable {X : Cx} {K : PySem.W.Frag}
theorem ix_seqK (h : X.K = K) : IxR X (rIx K) := h ▸ ix_seq
theorem ix_listK (h : X.K = K) : IxR X (rIxL K) := h ▸ ix_list
theorem ix_tupK (h : X.K = K) : IxR X (rIxT K) := h ▸ ix_tup
theorem get_listK (h : X.K = K) : PGet X (rIxL K) := h ▸ get_list
theorem len_seqK (h : X.K = K) : CallR X (.builtin "len") (fun xs H Q => ∃ p ys, xs = [.ref p] ∧ (SqL K H p ys ∨ SqT K H p ys) ∧ Q (.int ys.length) H) := h ▸ call_len_seq
theorem list_ofK (h : X.K = K) : CallR X (.type "list") (fun xs H Q => ∃ p ys, xs = [.ref p] ∧ (SqL K H p ys ∨ SqT K H p ys) ∧ ∀ l, H l = none → Q (.ref l) (upd H l (.lst ys))) := h ▸ call_list_of
theorem anyK (h : X.K = K) (hc : X.calm = true) : CallR X (.builtin "any") (rAny K) := h ▸ cr_any hc
theorem sumK (h : X.K = K) (hc : X.calm = true) : CallR X (.builtin "sum") (rSum K) := h ▸ cr_sum hc
theorem maxK (h : X.K = K) (hc : X.calm = true) : CallR X (.builtin "max") (rMax K) := h ▸ cr_max hc
theorem minK (h : X.K = K) (hc : X.calm = true) : CallR X (.builtin "min") (rMin K) := h ▸ cr_min hc
theorem sl_listK (h : X.K = K) : SlR X (rSlL K) := h ▸ sl_list
theorem eqDK (h : X.K = K) (hu : X.A.units + 64 < cLine) : OpR X (compareOp .Eq) (rEqD K) := h ▸ op_eqD hu
theorem neDK (h : X.K = K) (hu : X.A.units + 64 < cLine) : OpR X (compareOp .NotEq) (rNeD K) := h ▸ op_neD hu
theorem isiK (h : X.K = K) : CallR X (.builtin "isinstance") (rIsi K) := h ▸ call_isi
theorem isiTK (h : X.K = K) : CallR X (.builtin "isinstance") (rIsiT K) := h ▸ call_isiT
theorem pg_tupK {pos : Pos} {es : List Expr} {k : Nat} {t : TGs} {n : Nat} (e : X.K = K) (hc : X.calm = true) (h : PGs X es t)
    (hn : (assignEach es X.env).length = n := by rfl) (hst : (assignEach es X.env).findIdx? (·.1) = none := by rfl) : PG X (.Tuple es k pos) (gTup K n t) := e ▸ pg_tup hc h hn hst
theorem pg_seqK {pos : Pos} {es : List Expr} {k : Nat} {t : TGs} {n : Nat} (e : X.K = K) (hc : X.calm = true) (h : PGs X es t)
    (hn : (assignEach es X.env).length = n := by rfl) (hst : (assignEach es X.env).findIdx? (·.1) = none := by rfl) : PG X (.Tuple es k pos) (gSeq K n t) := e ▸ pg_seq hc h hn hst
theorem pi_listK {tg e : Expr} {te : TE} (h : X.K = K) (he : PE X e te) : PI X tg e (iList K te) := h ▸ pi_list he
end
end L2
namespace L2
open PySem PySem.Spec PyProof.Rows
theorem for_upto {lo : Int} {n L : Nat} {g : TG} {tb : TS} {D : Ends} {σ : St} {H : Hp} (hn : n = L) (Pv : Nat → St → Hp → Prop) (h0 : Pv 0 σ H)
    (hs : ∀ i σ H, i < L → Pv i σ H → g (.int (lo + i)) σ H fun σ2 H2 => tb { D with nx := Pv (i + 1), ct := Pv (i + 1), bk := D.nx } σ2 H2) (hd : ∀ σ H, Pv L σ H → D.nx σ H) :
    ∃ W : Nat → Nat → St → Hp → Prop, (∃ m, W 0 m σ H) ∧ ∀ i m σ H, W i m σ H →
      ((Itr lo n).stop i H ∧ D.nx σ H) ∨ ((Itr lo n).go i H ∧ ∃ N : St → Hp → Prop, (∀ σ' H', N σ' H' → ∃ m', m' < m ∧ W (i + 1) m' σ' H') ∧ ∀ x H', (Itr lo n).yld i H x H' → g x σ H' fun σ2 H2 => tb { D with nx := N, ct := N, bk := D.nx } σ2 H2) := by
  subst hn
  exact for_range Pv h0 hs hd
theorem ints_ix {ns : List Int} {i : Nat} (h : i < ns.length) : ∃ z, ns[i]? = some z := ⟨_, List.getElem?_eq_getElem h⟩
end L2
end
section
set_option maxRecDepth 100000
set_option maxHeartbeats 4000000
namespace L2
open PySem PySem.Spec PyProof.Rows
theorem cut_take (xs : List V) {z : Int} {k : Nat} (h : z = (k : Int)) : cutV xs none (some z) = xs.take k := by
  subst h
  unfold cutV
  rw [HT.sIx_nat, HT.sIx_none, List.drop_zero, Nat.sub_zero]
  rcases Nat.le_total k xs.length with h | h
  · rw [Nat.min_eq_left h]
  · rw [Nat.min_eq_right h, List.take_length, List.take_of_length_le h]
theorem cut_drop (xs : List V) {z : Int} {k : Nat} (h : z = (k : Int)) : cutV xs (some z) none = xs.drop k := by
  subst h
  unfold cutV
  rw [HT.sIx_nat, HT.sIx_none]
  rcases Nat.le_total k xs.length with h | h
  · rw [Nat.min_eq_left h, List.take_of_length_le]
    rw [List.length_drop]; omega
  · rw [Nat.min_eq_right h, List.drop_length, List.drop_of_length_le h]
    exact List.take_nil
/-- x[i:] of a list, as slicing of what stands there -/
theorem map_take {α : Type} (f : α → V) (ns : List α) (k : Nat) : (ns.map f).take k = (ns.take k).map f := List.map_take.symm
theorem map_drop {α : Type} (f : α → V) (ns : List α) (k : Nat) : (ns.map f).drop k = (ns.drop k).map f := List.map_drop.symm
theorem max_eq {ns : List Int} {m m' : Int} (h : m ∈ ns) (hm : ∀ y ∈ ns, y ≤ m) (h' : m' ∈ ns) (hm' : ∀ y ∈ ns, y ≤ m') : m = m' := Int.le_antisymm (hm' _ h) (hm _ h')
theorem PairR.unpackN {K : PySem.W.Frag} {H : Hp} {x : V} {c : Int × Int} (h : PairR K H x c) {σ : St} {i j n : Nat} (hn : n = 2) {Q : St → Hp → Prop} (q : Q ((σ.set i (some (.int c.1))).set j (some (.int c.2))) H) : gSeq K n (gCons (gName i) (gCons (gName j) gNil)) x σ H Q := by
  subst hn
  exact h.unpack q
section
variable {K : PySem.W.Frag} {D : Addr} {g : TG} {tt : TT} {te : TE} {vs : List Nat} {σ : St} {H1 : Hp} {Q : Hp → Prop}
theorem lc_upto {lo : Int} {n L : Nat} (hn : n = L) (hD : H1 D = none) (hz : L < 100000) (Acc : Nat → List V → Hp → Prop) (h0 : ∀ H', Same H1 H' → Acc 0 [] H')
    (hs : ∀ i acc H' (N : V → Hp → Prop) (N0 : Hp → Prop), i < L → Same H1 H' → H' D = some (.lst acc) → Acc i acc H' →
      (∀ y H4, Same H' H4 → (∀ H5, But D H4 H5 → H5 D = some (.lst (acc ++ [y])) → Acc (i + 1) (acc ++ [y]) H5) → N y H4) → (∀ H3, Same H' H3 → Acc (i + 1) acc H3 → N0 H3) →
      g (.int (lo + i)) (wipe σ vs) H' fun σ2 H2 => wipe σ2 vs = wipe σ vs ∧ tt σ2 H2 fun b H3 => if b = true then te σ2 H3 N else N0 H3)
    (hd : ∀ acc H', Same H1 H' → H' D = some (.lst acc) → acc.length ≤ L → Acc L acc H' → Q H') :
    ∃ W : Nat → Nat → Hp → Prop, (∃ m, W 0 m (upd H1 D (.lst []))) ∧ ∀ i m H, W i m H →
      ((Itr lo n).stop i H ∧ Q H) ∨ ((Itr lo n).go i H ∧ ∃ Nx : Hp → Prop, (∀ H', Nx H' → ∃ m', m' < m ∧ W (i + 1) m' H') ∧ ∀ x H', (Itr lo n).yld i H x H' → g x (wipe σ vs) H' fun σ2 H2 => wipe σ2 vs = wipe σ vs ∧ tt σ2 H2 fun b H3 =>
        if b = true then te σ2 H3 fun y H4 => ∃ acc, H4 D = some (.lst acc) ∧ acc.length < sizeLine ∧ Nx (upd H4 D (.lst (acc ++ [y]))) else Nx H3) := by
  subst hn
  exact lc_accR hD hz Acc h0 hs hd
end
/-! ### what stands elsewhere than at a -/
section
variable {K : PySem.W.Frag} {sa : Addr} {H H' : Hp}
theorem But.seq (e : But sa H H') {a : Addr} {xs : List V} (n : a ≠ sa) (h : SqL K H a xs) : SqL K H' a xs := by
  rcases h with (h | ⟨o, h⟩) | h
  · exact .inl (.inl (e _ _ h n))
  · exact .inl (.inr ⟨o, e _ _ h n⟩)
  · exact .inr h
theorem But.tup (e : But sa H H') {a : Addr} {xs : List V} (n : a ≠ sa) (h : SqT K H a xs) : SqT K H' a xs := by
  rcases h with (h | ⟨o, h⟩) | h
  · exact .inl (.inl (e _ _ h n))
  · exact .inl (.inr ⟨o, e _ _ h n⟩)
  · exact .inr h
theorem Same.but (e : Same H H') : But sa H H' := But.of e
theorem PairR.but (e : But sa H H') {x : V} {c : Int × Int} (n : x ≠ .ref sa) (h : PairR K H x c) : PairR K H' x c := by
  obtain ⟨t, rfl, h | h⟩ := h
  · exact ⟨t, rfl, .inl (e.tup (fun z => n (by rw [z])) h)⟩
  · exact ⟨t, rfl, .inr (e.seq (fun z => n (by rw [z])) h)⟩
/-- such, none of them at D -/
def PairD (K : PySem.W.Frag) (D : Addr) (H : Hp) (x : V) (c : Int × Int) : Prop := PairR K H x c ∧ x ≠ .ref D
def PairsD (K : PySem.W.Frag) (D : Addr) (H : Hp) : List V → List (Int × Int) → Prop := Paired (PairD K D H)
theorem PairsD.but {D : Addr} (e : But D H H') {xs : List V} {cs : List (Int × Int)} (h : PairsD K D H xs cs) : PairsD K D H' xs cs := Paired.mapP h fun _ _ z => ⟨z.1.but e z.2, z.2⟩
theorem PairsD.same {D : Addr} (e : Same H H') {xs : List V} {cs : List (Int × Int)} (h : PairsD K D H xs cs) : PairsD K D H' xs cs := Paired.mapP h fun _ _ z => ⟨z.1.same e, z.2⟩
theorem PairsD.prs {D : Addr} {xs : List V} {cs : List (Int × Int)} (h : PairsD K D H xs cs) : PairsR K H xs cs := Paired.mapP h fun _ _ z => z.1
theorem paired_snoc {α β : Type} {R : α → β → Prop} {xs : List α} {ys : List β} {x : α} {y : β} (h : Paired R xs ys) (r : R x y) : Paired R (xs ++ [x]) (ys ++ [y]) := by
  induction h with
  | nil => exact .cons r .nil
  | cons a _ ih => exact .cons a ih
theorem PairsR.but (e : But sa H H') {xs : List V} {cs : List (Int × Int)} (n : ∀ x ∈ xs, x ≠ .ref sa) (h : PairsR K H xs cs) : PairsR K H' xs cs := by
  induction h with
  | nil => exact .nil
  | cons a _ ih => exact .cons (a.but e (n _ List.mem_cons_self)) (ih fun x hx => n x (List.mem_cons_of_mem _ hx))
theorem paired_app {α β : Type} {R : α → β → Prop} {xs xs' : List α} {ys ys' : List β} (h : Paired R xs ys) (h' : Paired R xs' ys') : Paired R (xs ++ xs') (ys ++ ys') := by
  induction h with
  | nil => exact h'
  | cons a _ ih => exact .cons a ih
end
section
variable {K : PySem.W.Frag} {a D sa : Addr} {xs : List V} {g : TG} {tt : TT} {te : TE} {vs : List Nat} {σ : St} {H1 : Hp} {Q : Hp → Prop}
/-- a comprehension whose element changes what stands at sa -/
theorem lc_accB (hD : H1 D = none) (hsa : H1 sa ≠ none) (ha : a ≠ sa) (hS : SqL K H1 a xs) (hz : xs.length < 100000) (Acc : Nat → List V → Hp → Prop) (h0 : ∀ H', Same H1 H' → Acc 0 [] H')
    (hs : ∀ i x acc H' (N : V → Hp → Prop) (N0 : Hp → Prop), xs[i]? = some x → But sa H1 H' → H' D = some (.lst acc) → Acc i acc H' →
      (∀ y H4, But sa H' H4 → (∀ H5, But D H4 H5 → H5 D = some (.lst (acc ++ [y])) → Acc (i + 1) (acc ++ [y]) H5) → N y H4) → (∀ H3, But sa H' H3 → Acc (i + 1) acc H3 → N0 H3) →
      g x (wipe σ vs) H' fun σ2 H2 => wipe σ2 vs = wipe σ vs ∧ tt σ2 H2 fun b H3 => if b = true then te σ2 H3 N else N0 H3)
    (hd : ∀ acc H', But sa H1 H' → H' D = some (.lst acc) → acc.length ≤ xs.length → Acc xs.length acc H' → Q H') :
    ∃ W : Nat → Nat → Hp → Prop, (∃ m, W 0 m (upd H1 D (.lst []))) ∧ ∀ i m H, W i m H →
      ((Itl K a).stop i H ∧ Q H) ∨ ((Itl K a).go i H ∧ ∃ Nx : Hp → Prop, (∀ H', Nx H' → ∃ m', m' < m ∧ W (i + 1) m' H') ∧ ∀ x H', (Itl K a).yld i H x H' → g x (wipe σ vs) H' fun σ2 H2 => wipe σ2 vs = wipe σ vs ∧ tt σ2 H2 fun b H3 =>
        if b = true then te σ2 H3 fun y H4 => ∃ acc, H4 D = some (.lst acc) ∧ acc.length < sizeLine ∧ Nx (upd H4 D (.lst (acc ++ [y]))) else Nx H3) := by
  have hDs : D ≠ sa := fun z => hsa (z ▸ hD)
  refine lc_list (K := K) (a := a) (xs := xs) (fun i H' => But sa H1 H' ∧ ∃ acc, H' D = some (.lst acc) ∧ acc.length ≤ i ∧ Acc i acc H') ⟨But.of (same_new hD), [], upd_same, Nat.le_refl _, h0 _ (same_new hD)⟩ (fun i H' _ h => h.1.seq ha hS) ?_ ?_
  · rintro i x H' hx ⟨e, acc, hacc, hl, ha'⟩
    have hi : i < xs.length := (List.getElem?_eq_some_iff.mp hx).1
    refine hs i x acc H' _ _ hx e hacc ha' (fun y H4 s4 a4 => ?_) (fun H3 s3 a3 => ?_)
    · exact ⟨acc, s4 _ _ hacc hDs, line_lt (by omega), (e.trans s4).mut hD, acc ++ [y], upd_same, by rw [List.length_append]; exact Nat.succ_le_succ hl, a4 _ (fun b o hb n => by rw [upd_ne n]; exact hb) upd_same⟩
    · exact ⟨e.trans s3, acc, s3 _ _ hacc hDs, Nat.le_succ_of_le hl, a3⟩
  · rintro H' ⟨e, acc, hacc, hl, ha'⟩
    exact hd acc H' e hacc hl ha'
theorem lc_uptoB {lo : Int} {n L : Nat} (hn : n = L) (hD : H1 D = none) (hsa : H1 sa ≠ none) (hz : L < 100000) (Acc : Nat → List V → Hp → Prop) (h0 : ∀ H', Same H1 H' → Acc 0 [] H')
    (hs : ∀ i acc H' (N : V → Hp → Prop) (N0 : Hp → Prop), i < L → But sa H1 H' → H' D = some (.lst acc) → Acc i acc H' →
      (∀ y H4, But sa H' H4 → (∀ H5, But D H4 H5 → H5 D = some (.lst (acc ++ [y])) → Acc (i + 1) (acc ++ [y]) H5) → N y H4) → (∀ H3, But sa H' H3 → Acc (i + 1) acc H3 → N0 H3) →
      g (.int (lo + i)) (wipe σ vs) H' fun σ2 H2 => wipe σ2 vs = wipe σ vs ∧ tt σ2 H2 fun b H3 => if b = true then te σ2 H3 N else N0 H3)
    (hd : ∀ acc H', But sa H1 H' → H' D = some (.lst acc) → acc.length ≤ L → Acc L acc H' → Q H') :
    ∃ W : Nat → Nat → Hp → Prop, (∃ m, W 0 m (upd H1 D (.lst []))) ∧ ∀ i m H, W i m H →
      ((Itr lo n).stop i H ∧ Q H) ∨ ((Itr lo n).go i H ∧ ∃ Nx : Hp → Prop, (∀ H', Nx H' → ∃ m', m' < m ∧ W (i + 1) m' H') ∧ ∀ x H', (Itr lo n).yld i H x H' → g x (wipe σ vs) H' fun σ2 H2 => wipe σ2 vs = wipe σ vs ∧ tt σ2 H2 fun b H3 =>
        if b = true then te σ2 H3 fun y H4 => ∃ acc, H4 D = some (.lst acc) ∧ acc.length < sizeLine ∧ Nx (upd H4 D (.lst (acc ++ [y]))) else Nx H3) := by
  subst hn
  have hDs : D ≠ sa := fun z => hsa (z ▸ hD)
  refine lc_range (lo := lo) (n := n) (fun i H' => But sa H1 H' ∧ ∃ acc, H' D = some (.lst acc) ∧ acc.length ≤ i ∧ Acc i acc H') ⟨But.of (same_new hD), [], upd_same, Nat.le_refl _, h0 _ (same_new hD)⟩ ?_ ?_
  · rintro i H' hi ⟨e, acc, hacc, hl, ha'⟩
    refine hs i acc H' _ _ hi e hacc ha' (fun y H4 s4 a4 => ?_) (fun H3 s3 a3 => ?_)
    · exact ⟨acc, s4 _ _ hacc hDs, line_lt (by omega), (e.trans s4).mut hD, acc ++ [y], upd_same, by rw [List.length_append]; exact Nat.succ_le_succ hl, a4 _ (fun b o hb n => by rw [upd_ne n]; exact hb) upd_same⟩
    · exact ⟨e.trans s3, acc, s3 _ _ hacc hDs, Nat.le_succ_of_le hl, a3⟩
  · rintro H' ⟨e, acc, hacc, hl, ha'⟩
    exact hd acc H' e hacc hl ha'
end
theorem seq_via {t u : TS} {D : Ends} {σ : St} {H : Hp} (C : St → Hp → Prop) (h : ∀ U : St → Hp → Prop, (∀ σ' H', C σ' H' → U σ' H') → t { D with nx := U } σ H) (h2 : ∀ σ' H', C σ' H' → u D σ' H') : tSeq t u D σ H := h (u D) h2
section
variable {X : Cx} {K : PySem.W.Frag} {tg e : Expr} {w1 w2 : TI}
def iOr (w1 w2 : TI) : TI := fun σ H R => w1 σ H R ∨ w2 σ H R
theorem pi_or (h1 : PI X tg e w1) (h2 : PI X tg e w2) : PI X tg e (iOr w1 w2) := ⟨fun pins s σ H R I h => h.elim (h1.run pins s σ H R I) (h2.run pins s σ H R I)⟩
theorem pi_tupK {te : TE} (h : X.K = K) (he : PE X e te) : PI X tg e (iTup K te) := h ▸ pi_tup he
end
end L2
end
section
set_option maxRecDepth 100000
set_option maxHeartbeats 4000000
namespace L2
open PySem PySem.Spec PyProof.Rows
/-! ### plain data, compared with itself -/
theorem dpall_ints {K : PySem.W.Frag} {H : Hp} : ∀ ns : List Int, DpAll K H (ns.map V.int) (ns.map PyData.int)
  | [] => .nil
  | n :: t => .cons (.int n) (dpall_ints t)
theorem dp_ints {K : PySem.W.Frag} {H : Hp} {a : Addr} {ns : List Int} (h : SqL K H a (ns.map V.int)) : Dp K H (.ref a) (.list (ns.map PyData.int)) := .lst h (dpall_ints ns)
theorem canLay_of {d : PyData} (h : SeqAt.shaped d = true) : d.canLay0 = true := (Bool.and_eq_true_iff.mp h).1
theorem eqv_self {d : PyData} (h : SeqAt.shaped d = true) : PyData.eqv d d = true := SeqAt.eqv_refl d (canLay_of h)
theorem shaped_nums (ns : List Int) : SeqAt.shaped (.list (ns.map PyData.int)) = true := PySem.W.shaped_ints ns
end L2
end
section
set_option maxRecDepth 100000
set_option maxHeartbeats 4000000
namespace L2
open PySem PySem.Spec PyProof.Rows
/-! ### pairs of ints, each a list or a tuple, as data -/
abbrev G3 : Type := Bool × Int × Int
def dG (g : G3) : PyData := if g.1 = true then .list [.int g.2.1, .int g.2.2] else .tuple [.int g.2.1, .int g.2.2]
def datG (gs : List G3) : PyData := .list (gs.map dG)
def Sm (n : Int) : Prop := 0 ≤ n ∧ n < 4294967296
theorem sm_log {n : Int} (h : Sm n) : n.natAbs.log2 ≤ 32 := by
  obtain ⟨h0, h1⟩ := h
  by_cases z : n.natAbs = 0
  · rw [z]; decide
  · exact Nat.le_of_lt_succ ((Nat.log2_lt z).mpr (by omega))
theorem sm_short {n : Int} (h : Sm n) : ((PyData.int n).shown).length ≤ 13 := PyData.shown_int_le2 (by have := h.1; omega) (by have := h.2; omega)
theorem sm_show {n : Int} (h : Sm n) : (PyData.int n).showable = true := by
  have := sm_log h
  unfold PyData.showable
  exact decide_eq_true (by omega)
theorem sm_weight {n : Int} (h : Sm n) : (PyData.int n).weight ≤ 33 := by
  have := sm_log h
  unfold PyData.weight
  split <;> omega
structure GoodD (d : PyData) (dp wt : Nat) : Prop where
  show_ : d.showable = true
  dict : d.hasDict = false
  depth : d.depth ≤ dp
  lay : d.canLay0 = true
  weight : d.weight ≤ wt
  short : d.intsShort 13 = true
theorem good_int {n : Int} (h : Sm n) : GoodD (.int n) 0 33 := ⟨sm_show h, by unfold PyData.hasDict; rfl, by unfold PyData.depth; exact Nat.le_refl _, by unfold PyData.canLay0; rfl, sm_weight h, by unfold PyData.intsShort; exact decide_eq_true (sm_short h)⟩
structure GoodA (ds : List PyData) (dp wt : Nat) : Prop where
  show_ : PyData.showableAll ds = true
  dict : PyData.hasDictAll ds = false
  depth : PyData.depthAll ds ≤ dp
  lay : PyData.canLayAll0 ds = true
  weight : PyData.weightAll ds ≤ wt * ds.length
  short : PyData.intsShortAll 13 ds = true
theorem good_all {dp wt : Nat} : ∀ ds : List PyData, (∀ d ∈ ds, GoodD d dp wt) → GoodA ds dp (wt + 1)
  | [], _ => ⟨by unfold PyData.showableAll; rfl, by unfold PyData.hasDictAll; rfl, by unfold PyData.depthAll; exact Nat.zero_le _, by unfold PyData.canLayAll0; rfl, by unfold PyData.weightAll; exact Nat.zero_le _, by unfold PyData.intsShortAll; rfl⟩
  | d :: t, h => by
    have hd := h d List.mem_cons_self
    have ht := good_all t fun e he => h e (List.mem_cons_of_mem _ he)
    refine ⟨by unfold PyData.showableAll; rw [hd.show_, ht.show_]; rfl, by unfold PyData.hasDictAll; rw [hd.dict, ht.dict]; rfl, by unfold PyData.depthAll; have := hd.depth; have := ht.depth; omega, by unfold PyData.canLayAll0; rw [hd.lay, ht.lay]; rfl, ?_, by unfold PyData.intsShortAll; rw [hd.short, ht.short]; rfl⟩
    unfold PyData.weightAll
    have h1 := hd.weight
    have h2 := ht.weight
    rw [List.length_cons, Nat.mul_succ]
    omega
theorem GoodA.list {ds : List PyData} {dp wt : Nat} (h : GoodA ds dp wt) : GoodD (.list ds) (dp + 1) (wt * ds.length) :=
  ⟨by unfold PyData.showable; exact h.show_, by unfold PyData.hasDict; exact h.dict, by unfold PyData.depth; exact Nat.succ_le_succ h.depth, by unfold PyData.canLay0; exact h.lay, by unfold PyData.weight; exact h.weight, by unfold PyData.intsShort; exact h.short⟩
theorem GoodA.tuple {ds : List PyData} {dp wt : Nat} (h : GoodA ds dp wt) : GoodD (.tuple ds) (dp + 1) (wt * ds.length) :=
  ⟨by unfold PyData.showable; exact h.show_, by unfold PyData.hasDict; exact h.dict, by unfold PyData.depth; exact Nat.succ_le_succ h.depth, by unfold PyData.canLay0; exact h.lay, by unfold PyData.weight; exact h.weight, by unfold PyData.intsShort; exact h.short⟩
theorem good_dG {g : G3} (h1 : Sm g.2.1) (h2 : Sm g.2.2) : GoodD (dG g) 1 68 := by
  have ha : GoodA [PyData.int g.2.1, PyData.int g.2.2] 0 34 := good_all _ fun d hd => by
    rcases List.mem_cons.mp hd with rfl | hd
    · exact good_int h1
    · rw [List.mem_singleton.mp hd]; exact good_int h2
  unfold dG
  split
  · exact ha.list
  · exact ha.tuple
theorem good_datG {gs : List G3} (h : ∀ g ∈ gs, Sm g.2.1 ∧ Sm g.2.2) : GoodD (datG gs) 2 (69 * gs.length) := by
  have := (good_all (gs.map dG) fun d hd => by
    obtain ⟨g, hg, rfl⟩ := List.mem_map.mp hd
    exact good_dG (h g hg).1 (h g hg).2).list
  rw [List.length_map] at this
  exact this
theorem GoodD.fits {d : PyData} {dp wt : Nat} (h : GoodD d dp wt) (h1 : dp ≤ 64) (h2 : wt ≤ 2 ^ 20) : d.shown.length ≤ sizeLine := by
  refine PyData.shown_fits_of_layable0 (B := 13) (by decide) (by decide) ?_ h.short
  unfold PyData.layable0
  rw [h.lay, decide_eq_true (Nat.le_trans h.depth h1), decide_eq_true (Nat.le_trans h.weight h2)]
  rfl
theorem GoodD.shaped {d : PyData} {dp wt : Nat} (h : GoodD d dp wt) (h1 : dp ≤ 64) : SeqAt.shaped d = true := by
  unfold SeqAt.shaped
  rw [h.lay, decide_eq_true (Nat.le_trans h.depth h1)]
  rfl
end L2
end
section
set_option maxRecDepth 100000
set_option maxHeartbeats 4000000
namespace LamX
open PySem PySem.Spec PyProof.Rows L2
/-! ### x(), what it may raise told of the slots at the call -/
section
variable {X : Cx} {pins : List (Addr × Obj)} {σ : L2.St} {H : Hp} {s : Shared}
theorem pe_act3 {CXg : CXT} {Eg : XK} {Ng : List Str} {qg : Str} {sg : Scope} {g f c' : Addr} {cdg pm ctv : Value} {params : Arguments} {body : Expr} {scope : Scope} {k i : Nat} {a : Str} {pn : List (Addr × Obj)} {xe : Value → Shared → Prop} {W : WX} {E : XK} {tb : TE} {p1 p2 : Pos}
    (I : Inv X pins σ H s) (L : LamS X.env.scope scope) (hf : s.heap.get? f = some (PySem.W.kla_obj "<lambda>" (X.env.qual ++ "<lambda>") params body scope (cloFrom X.env.cells scope.names []) pm c' ctv)) (hfn : H f = none) (hfr : f ∉ frs X.stack)
    (hbind : bindArgs (PySem.W.kla_fn "<lambda>" (X.env.qual ++ "<lambda>") params body scope (cloFrom X.env.cells scope.names []) pm (.ref c') ctv) ⟨[], []⟩ = pure [])
    (tk : Takes ((cxOf CXg X.prog X.w X.K X.mg X.base Ng qg sg g cdg X.A X.stack s H Eg).tr pn xe) W) (hr : Room (k + 1) (X.A.deeper (envOfC qg sg s.heap.objs.size g cdg)))
    (hbody : ∀ (A : Around) (outer : List Env) (s : Shared) (H : Hp), Room k (A.deeper (lamEnv X scope s.heap.objs.size f c')) → PE (lamCx X A outer s H E scope f c') body tb)
    (hN : Ng[i]? = some a) (hv : Vis sg a) (hd : (a == ("__debug__" : Str)) = false := by decide) (hcd : (a == ("__classdict__" : Str)) = false := by decide) :
    PE ((cxOf CXg X.prog X.w X.K X.mg X.base Ng qg sg g cdg X.A X.stack s H Eg).tr pn xe) (.Call (.Name a p1) [] [] p2)
      (fun σZ HZ Q => σZ[i]? = some (some (.ref f)) ∧ HZ c' = some (CodeO c' (X.env.qual ++ "<lambda>")) ∧ (∀ cls d H', E cls d H' → W cls d σZ H') ∧ tb σ HZ Q) := by
  refine ⟨fun pinsZ sZ σZ HZ Q IZ h => ?_⟩
  obtain ⟨hs, hc, hW, ht⟩ := h
  refine wpAny_Call_Name_kw (thn ((pe_var (pos := p1) (i := i) hN hv hd hcd).run pinsZ sZ σZ HZ (fun v H1 => v = .ref f ∧ H1 = HZ) IZ ⟨.ref f, hs, rfl, rfl⟩) fun u s1 ⟨v, H1, I1, r1, q1⟩ => ?_)
  obtain ⟨ev, eH⟩ := q1
  subst ev
  rw [eH] at I1
  obtain rfl : u = Value.ref f := r1
  have of1 : s1.heap.get? f = some (PySem.W.kla_obj "<lambda>" (X.env.qual ++ "<lambda>") params body scope (cloFrom X.env.cells scope.names []) pm c' ctv) := I1.base.keep f _ hf hfn hfr (fun z => nomatch (show f ∈ ([] : List Addr) from z))
  refine PySem.W.callWith_F0 ⟨_, _, _, _, of1⟩ ?_
  have un : Un (frs X.stack) [] H HZ s.heap s1.heap := I1.base
  obtain ⟨⟨oc, vs, t, hoc, hdc, hvc⟩, _, _⟩ := I1.hok c' _ hc
  have rc : codeAny (model X.prog X.w) (X.A.deeper (envOfC qg sg s.heap.objs.size g cdg)) (.call (.ref f) ⟨[], []⟩) (CR (L2.CX X.prog X.w) (envOfC qg sg s.heap.objs.size g cdg :: X.stack) X.prog X.w HZ s1 Q E) s1 := by
    refine PySem.W.kla_callFunE hr.depth of1 rfl L.co L.gen rfl ⟨c', oc, vs, t, rfl, hoc, hdc, hvc⟩ ?_
    rw [hbind]
    refine wpAny_pure (wpAny_newFunctionEnv (fun y hy => (L.own y hy).2) (fun y hy => absurd hy (by simp)) (fun h₁ hns hsb => ⟨I1.nolimit.fresh _ hsb, ?_⟩) L.kind)
    show codeAny _ _ (.expr body (lamEnv X scope s1.heap.objs.size f c')) _ _
    have kp : ∀ b o, s1.heap.get? b = some o → h₁.get? b = some o := fun b o e => hsb.extBut b o (Nat.ne_of_lt (Heap.lt_size e)) (Heap.get?_push_of_some _ e)
    have J : Inv (lamCx X (X.A.deeper (envOfC qg sg s.heap.objs.size g cdg)) (envOfC qg sg s.heap.objs.size g cdg :: X.stack) s1 HZ E scope f c') [] σ HZ { s1 with heap := h₁, toks := s1.toks + ([] : List (Str × Value)).length } :=
      lam_start2 I L I1.env0 hr.hd un hns kp
    refine PySem.W.kla_codeExpr (wpAny_mono ((hbody _ _ s1 HZ (hr.deeper _)).run [] _ _ HZ Q J ht) (fun v s' hq => ?_) fun e s' hq => hq)
    obtain ⟨w', H', J', rv, q⟩ := hq
    exact ⟨w', H', J'.os, J'.bare, J'.base, J'.hok, rv, q⟩
  refine wpAny_call (codeAny_mono rc fun r s' hq => ?_)
  cases r with
  | error e => exact tk e s' (XE.of_call I1 (fun cls d H' h => hW cls d H' h) hq)
  | ok fl =>
    cases fl with
    | ret u => exact I1.after hq
    | next => exact False.elim hq
    | brk => exact False.elim hq
    | cont => exact False.elim hq
end
def Gives3 (X : Cx) (Ng : List Str) (x : Str) (sg : Scope) (g : Addr) (cdg : Value) (bg : List Stmt) (a : Str) (q : Str) (TT : (XK → Hp → VK → Prop) → (Hp → Prop) → V → Hp → VK → Prop) : Prop :=
  ∀ (f c' : Addr) (s : Shared) (H : Hp) (Q : VK) (v2 : V) (tl : XK → Hp → VK → Prop),
    (∀ (W : WX) (pn : List (Addr × Obj)) (xe : Value → Shared → Prop) (E : XK) (p1 p2 : Pos), Takes ((cxOf C8.CX0 X.prog X.w X.K X.mg X.base Ng x sg g cdg X.A X.stack s H C8.E0).tr pn xe) W →
      PE ((cxOf C8.CX0 X.prog X.w X.K X.mg X.base Ng x sg g cdg X.A X.stack s H C8.E0).tr pn xe) (.Call (.Name a p1) [] [] p2) (fun σZ HZ Q => σZ[0]? = some (some (.ref f)) ∧ HZ c' = some (CodeO c' q) ∧ (∀ cls d H', E cls d H' → W cls d σZ H') ∧ tl E HZ Q)) →
    H c' = some (CodeO c' q) → TT tl (fun H' => H' c' = some (CodeO c' q)) v2 H Q →
    ∃ t, PSs (cxOf C8.CX0 X.prog X.w X.K X.mg X.base Ng x sg g cdg X.A X.stack s H C8.E0).nox bg t ∧ t { nx := fun _ H' => Q .non H', rt := Q } (L2.start Ng [.ref f, v2]) H
section
variable {X : Cx}
theorem pe_lamcall3 {T : List (Addr × Str)} {TT : (XK → Hp → VK → Prop) → (Hp → Prop) → V → Hp → VK → Prop} {x a a2 : Str} {g c P : Addr} {k : Nat} {pg : Arguments} {bg : List Stmt} {sg : Scope} {dV kV doc pm cdv ct oc : Value} {an od : Option Addr} {osl : Array (Option Value)} {Ng : List Str}
    {params : Arguments} {body : Expr} {scope : Scope} {t : XK → TE} {p lpos pos : Pos} {e2 : Expr} {te : TE} (hg : Gl X x) (hm : X.mg x = some (.ref g)) (hk : PySem.W.keepIn X.K (.ref g) = true)
    (lk : X.K.lookup g = some ⟨oc, od, .func (PySem.W.fnOf x x pg bg sg dV kV doc pm an cdv ct), osl⟩) (hcg : PySem.W.codeIn X.K cdv x = true) (hb : L2.Binds X.K (PySem.W.fnOf x x pg bg sg dV kV doc pm an cdv ct) [a, a2] []) (Sg : FnScope Ng [a, a2] sg) (hNg : Ng[0]? = some a) (hva : Vis sg a)
    (hG : Gives3 X Ng x sg g cdv bg a (X.env.qual ++ "<lambda>") TT)
    (TB : TabB X.base X.mg c P) (hcode : X.env.code = .ref c) (hmT : (P, X.env.qual ++ "<lambda>") ∈ T) (hu : ∀ p ∈ T, p.1 = P → p.2 = X.env.qual ++ "<lambda>") (hr : Room (k + 2) X.A) (L : LamS X.env.scope scope) (hdef : defaultsOf params X.env = ([], []))
    (hbind : ∀ (q : Str) (cl : List (Str × Addr)) (pm cv ctv : Value), bindArgs (PySem.W.kla_fn "<lambda>" q params body scope cl pm cv ctv) ⟨[], []⟩ = pure [])
    (hbody : ∀ (A : Around) (outer : List Env) (s : Shared) (H : Hp) (E : XK) (f c' : Addr), Room k (A.deeper (lamEnv X scope s.heap.objs.size f c')) → PE (lamCx X A outer s H E scope f c') body (t E))
    (he2 : PA X [e2] (tCons te tNil))
    (hdb : (x == ("__debug__" : Str)) = false := by decide) (hd : (a == ("__debug__" : Str)) = false := by decide) (hcd : (a == ("__classdict__" : Str)) = false := by decide)
    (hs : starEach [.Lambda params body scope lpos, e2] X.env = (false, eval (.Lambda params body scope lpos) X.env) :: starEach [e2] X.env := by rfl) (hpl : (backTo pos (starEach [e2] X.env)).any (·.1) = false := by rfl) :
    PE X (.Call (.Name x p) [.Lambda params body scope lpos, e2] [] pos) (tLam2 T (X.env.qual ++ "<lambda>") TT t te) := by
  constructor
  intro pins s σ H Q I h
  obtain ⟨hT, h⟩ := h
  refine wpAny_Call_Name_kw (ld_glob I hg hm ?_ hdb)
  refine PySem.W.callWith_K (h₀ := X.base) I.ok.mod.kin hk ?_ hs hpl
  rw [hs]
  show wpAny _ _ (spliced ((false, eval (.Lambda params body scope lpos) X.env) :: backTo pos (starEach [e2] X.env))) _ _ s
  refine Calls.spliced_cons (lam_make2 I TB hcode hmT hu hT hdef (L.has I.ok) fun f c' pm' ctv H1 s' I1 eN T1 hf hfn hfr hco => ?_)
  have hcell : ∀ v, (PySem.W.kla_obj "<lambda>" (X.env.qual ++ "<lambda>") params body scope (cloFrom X.env.cells scope.names []) pm' c' ctv).data ≠ .cell v := fun v z => by cases z
  have fL : f ≠ X.env.locals := fun z => by
    obtain ⟨m, ⟨o, es, ep, e1, e2', _⟩, _⟩ := I1.loc
    rw [← z, hf] at e1
    have e3 := Option.some.inj e1
    rw [← e3] at e2'
    cases e2'
  have Ip : Inv X ((f, _) :: pins) σ H1 s' := I1.pins_of fun r hr => by
    rcases List.mem_cons.mp hr with e | e
    · subst e
      exact ⟨hf, hfn, fL, fun z => hfr (by
        rcases I1.ok.stk with e | ⟨e, _⟩
        · rw [e]; exact z
        · rw [e]
          show f ∈ (X.env :: X.outer).filterMap _
          rw [List.filterMap_cons]
          split
          · exact z
          · exact List.mem_cons_of_mem _ z), hcell⟩
    · exact I1.pin r (List.mem_append_right _ e)
  have h2 := h H1 c' eN T1 hco
  refine thn (he2.run pos _ s' σ H1 (fun vs H2 => ∃ v2, vs = [v2] ∧ H2 c' = some (CodeO c' (X.env.qual ++ "<lambda>")) ∧ TT (fun E H' Q' => t E σ H' Q') (fun H' => H' c' = some (CodeO c' (X.env.qual ++ "<lambda>"))) v2 H2 Q) Ip h2) ?_
  rintro us s2 ⟨vs, H2, I2, r2, v2, rfl, hc2, q2⟩
  obtain ⟨u2, rfl, ru2⟩ := vals1 r2
  refine ⟨I2.kIn, ?_⟩
  obtain ⟨hf2, hfn2, _⟩ := I2.pin (f, _) (List.mem_append_right _ List.mem_cons_self)
  have J2 : Inv X pins σ H2 s2 := ClX.unpin I2
  have rc : codeAny (model X.prog X.w) X.A (.call (.ref g) ⟨[.ref f, u2], []⟩) (CR C8.CX0 X.stack X.prog X.w H2 s2 Q C8.E0) s2 := by
    refine run_ofS (N := Ng) (ps := [a, a2]) (us := [.ref f, u2]) (vs := [.ref f, v2]) lk hcg Sg hr J2.env0 (hb s2 [.ref f, u2] J2.kIn rfl) (.cons rfl (.cons ru2 .nil)) rfl fun hr' => ?_
    obtain ⟨t', ht', hq'⟩ := hG f c' s2 H2 Q v2 (fun E H' Q' => t E σ H' Q') (fun W pn xe E p1 p2 tk => pe_act3 (i := 0) J2 L hf2 hfn2 hfr (hbind _ _ _ _ _) tk hr' (fun A outer s H hr2 => hbody A outer s H E f c' hr2) hNg hva hd hcd) hc2 q2
    exact ⟨t', ht'.nox, hq'⟩
  refine wpAny_call (codeAny_mono rc ?_)
  intro r s3 hq
  cases r with
  | error e => exact (show False from hq).elim
  | ok fl =>
    cases fl with
    | ret u => exact J2.after hq
    | next => exact False.elim hq
    | brk => exact False.elim hq
    | cont => exact False.elim hq
end
end LamX
end
section
set_option maxRecDepth 100000
set_option maxHeartbeats 4000000
namespace L2
open PySem PySem.Spec PyProof.Rows
/-! ### defs that make lambdas -/
section
variable {P : Program} {w : World} {K : PySem.W.Frag} {mg : Str → Option Value} {base : Heap} {CX : CXT} {k j : Nat} {x : Str} {ps N : List Str} {sp : Sp} {st : Stmt} {cc : Addr}
/-- a def that lets nothing out, its code object known -/
theorem Ok.defC (e : ∃ f fd, FnP K x st f fd ∧ mg x = some (.ref f) ∧ fd.code = .ref cc)
    (hb : ∀ (kV doc pm : Value) (an : Option Addr) (cdv ct : Value) (us : List Value), us.length = ps.length → bindArgs (PySem.W.fnOf x x (defArgs st) (defBody st) (defScope st) .none kV doc pm an cdv ct) ⟨us, []⟩ = pure (ps.zip us))
    (S : FnScope N ps (defScope st)) (len : ∀ vs H Q E, sp vs H Q E → vs.length = ps.length)
    (hbody : ∀ (f : Addr) (A : Around) (outer : List Env) (s : Shared) (H : Hp) (vs : List V) (Q : VK) (E : XK), Room k (A.deeper (envOfC x (defScope st) s.heap.objs.size f (.ref cc))) → sp vs H Q E →
      ∃ t, PSs (cxOf CX0 P w K mg base N x (defScope st) f (.ref cc) A outer s H E).nox (defBody st) t ∧ t { nx := fun _ H' => Q .non H', rt := Q } (start N vs) H) : Ok P w K mg base CX0 (k + 1) x ps sp := by
  obtain ⟨f, fd, F, g, hc⟩ := e
  refine ⟨f, fd, ?_, g, F.kp, F.bindsN hb⟩
  obtain ⟨oc, od, dV, kV, doc, pm, an, cdv, ct, osl, rfl, lk, hcd, _, _⟩ := F.ex
  obtain rfl : cdv = .ref cc := hc
  exact fn_of lk hcd S len fun A outer s H vs Q E hr hsp => by
    obtain ⟨t, h1, h2⟩ := hbody f A outer s H vs Q E hr hsp
    exact ⟨t, h1.nox, h2⟩
/-- a def of the top that asks that no repr is under way -/
structure OkG (P : Program) (w : World) (K : PySem.W.Frag) (mg : Str → Option Value) (base : Heap) (k : Nat) (x : Str) (ps : List Str) (sp : Sp) : Prop where
  ex : ∃ f fd, FnG P w K mg base k f fd ps sp ∧ mg x = some (.ref f) ∧ PySem.W.keepIn K (.ref f) = true ∧ Binds K fd ps []
theorem OkG.defC (e : ∃ f fd, FnP K x st f fd ∧ mg x = some (.ref f) ∧ fd.code = .ref cc)
    (hb : ∀ (kV doc pm : Value) (an : Option Addr) (cdv ct : Value) (us : List Value), us.length = ps.length → bindArgs (PySem.W.fnOf x x (defArgs st) (defBody st) (defScope st) .none kV doc pm an cdv ct) ⟨us, []⟩ = pure (ps.zip us))
    (S : FnScope N ps (defScope st)) (len : ∀ vs H Q E, sp vs H Q E → vs.length = ps.length)
    (hbody : ∀ (f : Addr) (A : Around) (outer : List Env) (s : Shared) (H : Hp) (vs : List V) (Q : VK), Room k (A.deeper (envOfC x (defScope st) s.heap.objs.size f (.ref cc))) → A.guards = some [] → sp vs H Q E0 →
      ∃ t, PSs (cxOf CX0 P w K mg base N x (defScope st) f (.ref cc) A outer s H E0).nox (defBody st) t ∧ t { nx := fun _ H' => Q .non H', rt := Q } (start N vs) H) : OkG P w K mg base (k + 1) x ps sp := by
  obtain ⟨f, fd, F, g, hc⟩ := e
  have B : Binds K fd ps [] := F.bindsN hb
  refine ⟨f, fd, ?_, g, F.kp, B⟩
  obtain ⟨oc, od, dV, kV, doc, pm, an, cdv, ct, osl, rfl, lk, hcd, _, _⟩ := F.ex
  obtain rfl : cdv = .ref cc := hc
  constructor
  · exact len
  · intro A outer s H args us vs Q hr hgd e0 hbt r hsp
    refine LamX.run_ofS lk hcd S hr e0 hbt r (len _ _ _ _ hsp) fun hr' => ?_
    obtain ⟨t, h, q⟩ := hbody f A outer s H vs Q hr' hgd hsp
    exact ⟨t, h.nox, q⟩
end
theorem pe_okG {X : Cx} {k : Nat} {x : Str} {ps : List Str} {sp : Sp} {p pos : Pos} {e : Expr} {es : List Expr} {t : TA} (O : OkG X.prog X.w X.K X.mg X.base k x ps sp) (hr : Room k X.A) (hgd : X.A.guards = some []) (hg : Gl X x) (ha : PA X (e :: es) t)
    (hdb : (x == ("__debug__" : Str)) = false := by decide) (he : starEach (e :: es) X.env = (false, eval e X.env) :: starEach es X.env := by rfl) (hpl : (backTo pos (starEach es X.env)).any (·.1) = false := by rfl) :
    PE X (.Call (.Name x p) (e :: es) [] pos) (tCallE sp t) := by
  obtain ⟨f, fd, F, hm, hk, hb⟩ := O.ex
  exact pe_callG F hr hgd hg hm hk hb ha hdb he hpl
end L2
namespace LamX
open PySem PySem.Spec PyProof.Rows L2
theorem Gives2.three {X : Cx} {Ng : List Str} {x : Str} {sg : Scope} {g : Addr} {cdg : Value} {bg : List Stmt} {a q : Str} {TT : (XK → Hp → VK → Prop) → (Hp → Prop) → V → Hp → VK → Prop} (h : Gives2 X Ng x sg g cdg bg a q TT) : Gives3 X Ng x sg g cdg bg a q TT := by
  intro f c' s H Q v2 tl hc hco hT
  exact h f c' s H Q v2 tl (fun W pn xe E p1 p2 tk hW => ⟨fun pins s' σ H' Q' I hq => (hc W pn xe E p1 p2 tk).run pins s' σ H' Q' I ⟨hq.1, hq.2.1, fun cls d H2 he => hW cls d _ H2 he, hq.2.2⟩⟩) hco hT
end LamX
end
section
set_option maxRecDepth 100000
set_option maxHeartbeats 4000000
namespace L2
open PySem PySem.Spec PyProof.Rows
section
variable {P : Program} {w : World} {K : PySem.W.Frag} {mg : Str → Option Value} {base : Heap}
abbrev stk (a b c : Int) : HO := .lst [.int a, .int b, .int c]
def Stk (H : Hp) (sa : Addr) : Prop := ∃ a b c, H sa = some (stk a b c)
theorem fmod_range (a : Int) {m : Int} (h : 0 < m) : 0 ≤ a.fmod m ∧ a.fmod m < m := by
  rw [Int.fmod_eq_emod_of_nonneg a (Int.le_of_lt h)]
  exact ⟨Int.emod_nonneg _ (by omega), Int.emod_lt_of_pos _ h⟩
def spDraw : Sp := fun vs H Q _ => ∃ (sa : Addr) (m : Int), vs = [.ref sa, .int m] ∧ 0 < m ∧ m < 1073741824 ∧ Stk H sa ∧ ∀ r a b c, 0 ≤ r → r < m → Q (.int r) (upd H sa (stk a b c))
def spStock (K : PySem.W.Frag) : Sp := fun vs H Q _ => ∃ (a : Addr) (ns : List Int) (at_ : Int), vs = [.ref a, .int at_] ∧ SqL K H a (ns.map V.int) ∧ ns.length ≤ 63 ∧ 0 ≤ at_ ∧ at_ ≤ 100 ∧
  ∀ p H', H p = none → Same H H' → Stk H' p → Q (.ref p) H'
theorem stk_upd {H : Hp} {sa : Addr} {a b c : Int} : Stk (upd H sa (stk a b c)) sa := ⟨a, b, c, upd_same⟩
theorem Stk.ne {H : Hp} {sa : Addr} (h : Stk H sa) : H sa ≠ none := by
  obtain ⟨a, b, c, h⟩ := h
  rw [h]
  exact fun z => by cases z
theorem Stk.but {H : Hp} {sa a : Addr} (h : Stk H sa) (n : sa ≠ a) {o : HO} : Stk (upd H a o) sa := by
  obtain ⟨x, y, z, h⟩ := h
  exact ⟨x, y, z, by rw [upd_ne n]; exact h⟩
theorem Stk.new {H : Hp} {sa a : Addr} (h : Stk H sa) (n : H a = none) {o : HO} : Stk (upd H a o) sa := h.but fun z => h.ne (z ▸ n)
theorem Stk.same {H H' : Hp} {sa : Addr} (h : Stk H sa) (e : Same H H') : Stk H' sa := by
  obtain ⟨x, y, z, h⟩ := h
  exact ⟨x, y, z, e _ _ h⟩
def Leaf (v w : V) : Prop := (∃ n, v = .int n ∧ w = .int n) ∨ (∃ s, v = .str s ∧ w = .str s)
def Comp (R : Hp → V → V → Prop) (H : Hp) (v w : V) : Prop := ∃ (a b : Addr) (xs ys : List V), v = .ref a ∧ w = .ref b ∧ ((H a = some (.lst xs) ∧ H b = some (.lst ys)) ∨ (H a = some (.tup xs) ∧ H b = some (.tup ys))) ∧ xs.length = ys.length ∧ ys.length ≤ 1000 ∧ ∀ (i : Nat) (x y : V), xs[i]? = some x → ys[i]? = some y → R H x y
def Mt : Nat → Hp → V → V → Prop
  | 0, _, v, w => Leaf v w
  | k + 1, H, v, w => Leaf v w ∨ Comp (Mt k) H v w
theorem Mt.same : ∀ {k : Nat} {H H' : Hp} {v w : V}, Same H H' → Mt k H v w → Mt k H' v w
  | 0, _, _, _, _, _, h => h
  | k + 1, _, _, _, _, e, .inl h => .inl h
  | k + 1, _, _, _, _, e, .inr ⟨a, b, xs, ys, e1, e2, h, hl, hz, hr⟩ => .inr ⟨a, b, xs, ys, e1, e2, h.imp (fun z => ⟨e _ _ z.1, e _ _ z.2⟩) (fun z => ⟨e _ _ z.1, e _ _ z.2⟩), hl, hz, fun i x y hx hy => Mt.same e (hr i x y hx hy)⟩
def spMt (R : Hp → V → V → Prop) : Sp := fun vs H Q _ => ∃ v w, vs = [v, w] ∧ R H v w ∧ ∀ H', Same H H' → Q (.bl true) H'
theorem k_ii : PySem.W.kitOne K (.type "int") (.type "int") = some true := kit_ty (by decide +kernel)
theorem k_ib : PySem.W.kitOne K (.type "int") (.type "bool") = some false := kit_ty (by decide +kernel)
theorem k_sb : PySem.W.kitOne K (.type "str") (.type "bool") = some false := kit_ty (by decide +kernel)
theorem k_si : PySem.W.kitOne K (.type "str") (.type "int") = some false := kit_ty (by decide +kernel)
theorem k_ss : PySem.W.kitOne K (.type "str") (.type "str") = some true := kit_ty (by decide +kernel)
theorem k_lb : PySem.W.kitOne K (.type "list") (.type "bool") = some false := kit_ty (by decide +kernel)
theorem k_li : PySem.W.kitOne K (.type "list") (.type "int") = some false := kit_ty (by decide +kernel)
theorem k_ls : PySem.W.kitOne K (.type "list") (.type "str") = some false := kit_ty (by decide +kernel)
theorem k_ld : PySem.W.kitOne K (.type "list") (.type "dict") = some false := kit_ty (by decide +kernel)
theorem k_lt : PySem.W.kitOne K (.type "list") (.type "tuple") = some false := kit_ty (by decide +kernel)
theorem k_ll : PySem.W.kitOne K (.type "list") (.type "list") = some true := kit_ty (by decide +kernel)
theorem k_tb : PySem.W.kitOne K (.type "tuple") (.type "bool") = some false := kit_ty (by decide +kernel)
theorem k_ti : PySem.W.kitOne K (.type "tuple") (.type "int") = some false := kit_ty (by decide +kernel)
theorem k_ts : PySem.W.kitOne K (.type "tuple") (.type "str") = some false := kit_ty (by decide +kernel)
theorem k_td : PySem.W.kitOne K (.type "tuple") (.type "dict") = some false := kit_ty (by decide +kernel)
theorem k_tt : PySem.W.kitOne K (.type "tuple") (.type "tuple") = some true := kit_ty (by decide +kernel)
theorem k_tl : PySem.W.kitOne K (.type "tuple") (.type "list") = some false := kit_ty (by decide +kernel)
theorem k_il : PySem.W.kitOne K (.type "int") (.type "list") = some false := kit_ty (by decide +kernel)
theorem k_it : PySem.W.kitOne K (.type "int") (.type "tuple") = some false := kit_ty (by decide +kernel)
theorem k_id : PySem.W.kitOne K (.type "int") (.type "dict") = some false := kit_ty (by decide +kernel)
theorem k_sl : PySem.W.kitOne K (.type "str") (.type "list") = some false := kit_ty (by decide +kernel)
theorem k_st : PySem.W.kitOne K (.type "str") (.type "tuple") = some false := kit_ty (by decide +kernel)
theorem k_sd : PySem.W.kitOne K (.type "str") (.type "dict") = some false := kit_ty (by decide +kernel)
theorem tx_int {H : Hp} (n : Int) : TyX K H (.int n) (.type "int") := .base (.int n)
theorem tx_str {H : Hp} (n : Str) : TyX K H (.str n) (.type "str") := .base (.str n)
theorem tx_lst {H : Hp} {a : Addr} {xs : List V} (h : H a = some (.lst xs)) : TyX K H (.ref a) (.type "list") := .base (.lst h)
theorem tx_tup {H : Hp} {a : Addr} {xs : List V} (h : H a = some (.tup xs)) : TyX K H (.ref a) (.type "tuple") := .base (.tup h)
def Leaf1 (v : V) : Prop := (∃ n, v = .int n) ∨ (∃ s, v = .str s)
theorem mt_ints {H : Hp} {a b : Addr} {ns : List Int} (hz : ns.length ≤ 1000) (ha : H a = some (.lst (ns.map V.int))) (hb : H b = some (.lst (ns.map V.int))) : Mt 1 H (.ref a) (.ref b) := by
  refine .inr ⟨a, b, _, _, rfl, rfl, .inl ⟨ha, hb⟩, rfl, by rw [ints_len]; exact hz, fun i x y hx hy => ?_⟩
  obtain ⟨n, _, rfl⟩ := ints_get hx
  rw [hx] at hy
  cases hy
  exact .inl ⟨n, rfl, rfl⟩
theorem new2 {H : Hp} {a : Addr} (o : HO) (h : H a = none) : Same H (upd H a o) ∧ upd H a o a = some o := ⟨same_new h, upd_same⟩
theorem pe_noway {X : Cx} {e : Expr} : PE X e (fun _ _ _ => False) := ⟨fun _ _ _ _ _ _ h => h.elim⟩
theorem ext_lst {H H' : Hp} {a : Addr} {xs : List V} (e : LamX.ExtN H H') (h : H a = some (.lst xs)) : H' a = some (.lst xs) := e _ _ h fun _ z => by cases z
theorem ext_tup {H H' : Hp} {a : Addr} {xs : List V} (e : LamX.ExtN H H') (h : H a = some (.tup xs)) : H' a = some (.tup xs) := e _ _ h fun _ z => by cases z
theorem ext_of {H H' : Hp} (e : Same H H') : LamX.ExtN H H' := fun b o h _ => e b o h
def Bx (sa : Addr) (H H' : Hp) : Prop := ∀ b o, H b = some o → (∀ ps, o ≠ .tbl ps) → b ≠ sa → H' b = some o
theorem ext_bx {sa : Addr} {H H1 H2 : Hp} (e : LamX.ExtN H H1) (n : H sa = none) (b : Bx sa H1 H2) : LamX.ExtN H H2 := fun c o h p => b c o (e c o h p) p (ne_of_none h n)
theorem ext_new {sa : Addr} {H H1 H1' H2 : Hp} (e : LamX.ExtN H H1) (n : H1 sa = none) (s : Same H1 H1') (b : Bx sa H1' H2) : LamX.ExtN H H2 := fun c o h p => b c o (s _ _ (e c o h p)) p (ne_of_none (e c o h p) n)
theorem ext_seq {K : PySem.W.Frag} {H H' : Hp} {a : Addr} {xs : List V} (e : LamX.ExtN H H') (h : SqL K H a xs) : SqL K H' a xs := by
  rcases h with (h | ⟨o, h⟩) | h
  · exact .inl (.inl (e _ _ h fun _ z => by cases z))
  · exact .inl (.inr ⟨o, e _ _ h fun _ z => by cases z⟩)
  · exact .inr h
theorem min2 (a b : Int) : (if b < a then b else a) = min a b := by omega
theorem max2 (a b : Int) : (if b > a then b else a) = max a b := by omega
theorem max1 (m : Int) : (if m > 1 then m else 1) = max 1 m := by omega
theorem Bx.of_but {sa : Addr} {H H' : Hp} (e : But sa H H') : Bx sa H H' := fun b o h _ n => e b o h n
theorem Bx.of_same {sa : Addr} {H H' : Hp} (e : Same H H') : Bx sa H H' := fun b o h _ _ => e b o h
theorem Bx.of_ext {sa : Addr} {H H' : Hp} (e : LamX.ExtN H H') : Bx sa H H' := fun b o h n _ => e b o h n
theorem Bx.trans {sa : Addr} {H H1 H2 : Hp} (a : Bx sa H H1) (b : Bx sa H1 H2) : Bx sa H H2 := fun c o h n m => b c o (a c o h n m) n m
theorem Bx.lst {sa : Addr} {H H' : Hp} {a : Addr} {xs : List V} (e : Bx sa H H') (n : a ≠ sa) (h : H a = some (.lst xs)) : H' a = some (.lst xs) := e _ _ h (fun _ z => by cases z) n
theorem Bx.tup {sa : Addr} {H H' : Hp} {a : Addr} {xs : List V} (e : Bx sa H H') (n : a ≠ sa) (h : H a = some (.tup xs)) : H' a = some (.tup xs) := e _ _ h (fun _ z => by cases z) n
theorem tabs_but {sa : Addr} {H H' : Hp} {Tb : List (Addr × Str)} (h : LamX.Tabs Tb H) (hs : Stk H sa) (e : But sa H H') : LamX.Tabs Tb H' := fun p hp => by
  obtain ⟨ps, hP, ht, hc⟩ := h p hp
  have hne : p.1 ≠ sa := fun z => by
    obtain ⟨x, y, w, hs⟩ := hs
    rw [z, hs] at hP
    cases hP
  exact ⟨ps, e _ _ hP hne, ht, fun pos cv q => by
    obtain ⟨c, h1, h2⟩ := hc pos cv q
    have hc : c ≠ sa := fun z => by
      obtain ⟨x, y, w, hs⟩ := hs
      rw [z, hs] at h2
      cases h2
    exact ⟨c, h1, e _ _ h2 hc⟩⟩
def PairT (H : Hp) (x : V) (c : Int × Int) : Prop := ∃ t, x = .ref t ∧ H t = some (.tup [.int c.1, .int c.2])
theorem ne_stk {H : Hp} {sa t : Addr} {o : HO} (hs : Stk H sa) (h : H t = some o) (n : ∀ xs, o ≠ .lst xs) : t ≠ sa := fun z => by
  obtain ⟨x, y, w, hs⟩ := hs
  rw [z, hs] at h
  exact n _ (Option.some.inj h).symm
theorem PairT.bx {sa : Addr} {H H' : Hp} (hs : Stk H sa) (e : Bx sa H H') {x : V} {c : Int × Int} (h : PairT H x c) : PairT H' x c := by
  obtain ⟨t, rfl, h⟩ := h
  exact ⟨t, rfl, e.tup (ne_stk hs h fun _ z => by cases z) h⟩
theorem PairT.same {H H' : Hp} (e : Same H H') {x : V} {c : Int × Int} (h : PairT H x c) : PairT H' x c := by
  obtain ⟨t, rfl, h⟩ := h
  exact ⟨t, rfl, e _ _ h⟩
theorem PairT.mut {H : Hp} {l : Addr} {xs : List V} {o : HO} (hl : H l = some (.lst xs)) {x : V} {c : Int × Int} (h : PairT H x c) : PairT (upd H l o) x c := by
  obtain ⟨t, rfl, h⟩ := h
  refine ⟨t, rfl, ?_⟩
  rw [upd_ne (fun z => by rw [z, hl] at h; cases h)]
  exact h
theorem PairT.r {K : PySem.W.Frag} {H : Hp} {x : V} {c : Int × Int} (h : PairT H x c) : PairR K H x c := by
  obtain ⟨t, rfl, h⟩ := h
  exact ⟨t, rfl, .inl (SqT.of h)⟩
theorem paired_mem {α β : Type} {R : α → β → Prop} {xs : List α} {ys : List β} (h : Paired R xs ys) {x : α} (hx : x ∈ xs) : ∃ y ∈ ys, R x y := by
  induction h with
  | nil => cases hx
  | cons a _ ih =>
    rcases List.mem_cons.mp hx with rfl | hx
    · exact ⟨_, List.mem_cons_self, a⟩
    · obtain ⟨y, hy, r⟩ := ih hx
      exact ⟨y, List.mem_cons_of_mem _ hy, r⟩
theorem paired_build {α β : Type} {R : α → β → Prop} {S : β → Prop} : ∀ (xs : List α), (∀ x ∈ xs, ∃ y, R x y ∧ S y) → ∃ ys, Paired R xs ys ∧ ∀ y ∈ ys, S y
  | [], _ => ⟨[], .nil, fun y hy => by cases hy⟩
  | x :: t, h => by
    obtain ⟨y, r, s⟩ := h x List.mem_cons_self
    obtain ⟨ys, rs, ss⟩ := paired_build t fun z hz => h z (List.mem_cons_of_mem _ hz)
    refine ⟨y :: ys, .cons r rs, fun z hz => ?_⟩
    rcases List.mem_cons.mp hz with rfl | hz
    · exact s
    · exact ss z hz
theorem paired_drop {α β : Type} {R : α → β → Prop} : ∀ (k : Nat) {xs : List α} {ys : List β}, Paired R xs ys → Paired R (xs.drop k) (ys.drop k)
  | 0, _, _, h => h
  | k + 1, _, _, .nil => .nil
  | k + 1, _, _, .cons a r => paired_drop k r
theorem paired_take {α β : Type} {R : α → β → Prop} : ∀ (k : Nat) {xs : List α} {ys : List β}, Paired R xs ys → Paired R (xs.take k) (ys.take k)
  | 0, _, _, _ => .nil
  | k + 1, _, _, .nil => .nil
  | k + 1, _, _, .cons a r => .cons a (paired_take k r)
def Er (C : Addr) (fl : Str) (v : V) (H : Hp) : XK := fun cls d H' => cls = .ref C ∧ ∃ d', d = some d' ∧ Same H H' ∧ H' d' = some (.xd [(fl, v)])
theorem rz_er {C : Addr} {fl : Str} {v : V} {H H1 : Hp} (e : Same H H1) : Rz (Er C fl v H) H1 C fl v := fun d H' s hd => ⟨rfl, d, rfl, e.trans s, hd⟩
theorem paired_rep {α β : Type} {R : α → β → Prop} {x : α} {c : β} (h : R x c) : ∀ n, Paired R (List.replicate n [x]).flatten (List.replicate n c)
  | 0 => .nil
  | n + 1 => .cons h (paired_rep h n)
theorem rep_ints (n : Nat) (z : Int) : (List.replicate n [V.int z]).flatten = (List.replicate n z).map V.int := by
  induction n with
  | zero => rfl
  | succ n ih => rw [List.replicate_succ, List.flatten_cons, ih]; rfl
theorem rep_len {α : Type} (n : Nat) (x : α) : (List.replicate n [x]).flatten.length = n := by
  induction n with
  | zero => rfl
  | succ n ih => rw [List.replicate_succ, List.flatten_cons, List.length_append, ih]; simp; omega
end
end L2
end
section
set_option maxRecDepth 100000
set_option maxHeartbeats 4000000
namespace L2
open PySem PySem.Spec PyProof.Rows
/-! ### methods and own classes by name -/
structure OkM (P : Program) (w : World) (K : PySem.W.Frag) (mg : Str → Option Value) (base : Heap) (CX : CXT) (k : Nat) (C : Addr) (m : Str) (ps : List Str) (sp : Sp) : Prop where
  ex : ∃ f fd, FnOk P w K mg base CX k f fd ps sp ∧ Meth K C m f ∧ Binds K fd ps []
structure OkK (P : Program) (w : World) (K : PySem.W.Frag) (mg : Str → Option Value) (base : Heap) (CX : CXT) (k : Nat) (x : Str) (C : Addr) (ps : List Str) (sp : Sp) : Prop where
  ex : ∃ f fd, FnOk P w K mg base CX k f fd ps sp ∧ Mk K C f ∧ mg x = some (.ref C) ∧ Binds K fd ps []
section
variable {X : Cx} {CX : CXT} {k : Nat} {C : Addr} {x m : Str} {ps : List Str} {sp : Sp} {E : XK} {p pos apos : Pos} {o e : Expr} {es : List Expr} {ta : TE} {t : TA}
theorem pe_okM {pl : Sem Bool} (O : OkM X.prog X.w X.K X.mg X.base CX k C m ps sp) (c : Cls X.K C) (he : PE X o ta) (hr : Room k X.A) (hx : Passes CX X E) (ha : PA X (e :: es) t)
    (hst : starEach (e :: es) X.env = (false, eval e X.env) :: starEach es X.env := by rfl) (hpl : (backTo pos (starEach es X.env)).any (·.1) = false := by rfl)
    (ht : eval (.Call (.Attribute o m apos) (e :: es) [] pos) X.env = (do
      let ov ← eval o X.env
      standAt apos.atName
      let (f, first) ← holding [ov] (getMethod ov m pl)
      callWith pos f first (backTo pos (starEach (e :: es) X.env)) (backToKw pos (keywordEach [] X.env))) := by rfl) : PE X (.Call (.Attribute o m apos) (e :: es) [] pos) (tMeth C m sp [] E ta t) := by
  obtain ⟨f, fd, F, M, B⟩ := O.ex
  exact pe_meth (pl := pl) he c M F hr B .nil hx ha hst hpl ht
theorem pe_okM0 {pl : Sem Bool} (O : OkM X.prog X.w X.K X.mg X.base CX k C m ps sp) (c : Cls X.K C) (he : PE X o ta) (hr : Room k X.A) (hx : Passes CX X E)
    (ht : eval (.Call (.Attribute o m apos) [] [] pos) X.env = (do
      let ov ← eval o X.env
      standAt apos.atName
      let (f, first) ← holding [ov] (getMethod ov m pl)
      callWith pos f first (backTo pos (starEach [] X.env)) (backToKw pos (keywordEach [] X.env))) := by rfl) : PE X (.Call (.Attribute o m apos) [] [] pos) (tMeth C m sp [] E ta tNil) := by
  obtain ⟨f, fd, F, M, B⟩ := O.ex
  exact pe_meth0 (pl := pl) he c M F hr B .nil hx ht
theorem pe_okK (O : OkK X.prog X.w X.K X.mg X.base CX k x C ps sp) (hr : Room (k + 1) X.A) (hg : Gl X x) (hx : Passes CX X E) (ha : PA X (e :: es) t) (hdb : (x == ("__debug__" : Str)) = false := by decide)
    (he : starEach (e :: es) X.env = (false, eval e X.env) :: starEach es X.env := by rfl) (hpl : (backTo pos (starEach es X.env)).any (·.1) = false := by rfl) : PE X (.Call (.Name x p) (e :: es) [] pos) (tMake C sp [] E t) := by
  obtain ⟨f, fd, F, M, hm, B⟩ := O.ex
  exact pe_make M F hr hg hm B .nil hx ha hdb he hpl
end
section
variable {P : Program} {w : World} {K : PySem.W.Frag} {mg : Str → Option Value} {base : Heap} {k : Nat} {C f : Addr} {m q x : Str} {ps N : List Str} {sp : Sp} {st : Stmt}
theorem OkM.def0 (e : ∃ fd, FnM K m q st f fd) (M : Meth K C m f)
    (hb : ∀ (kV doc pm : Value) (an : Option Addr) (cdv ct : Value) (us : List Value), us.length = ps.length → bindArgs (PySem.W.fnOf m q (defArgs st) (defBody st) (defScope st) .none kV doc pm an cdv ct) ⟨us, []⟩ = pure (ps.zip us))
    (S : FnScope N ps (defScope st)) (len : ∀ vs H Q E, sp vs H Q E → vs.length = ps.length)
    (hbody : ∀ (cdv : Value) (A : Around) (outer : List Env) (s : Shared) (H : Hp) (vs : List V) (Q : VK) (E : XK), Room k (A.deeper (envOfC q (defScope st) s.heap.objs.size f cdv)) → sp vs H Q E →
      ∃ t, PSs (cxOf CX0 P w K mg base N q (defScope st) f cdv A outer s H E).nox (defBody st) t ∧ t { nx := fun _ H' => Q .non H', rt := Q } (start N vs) H) : OkM P w K mg base CX0 (k + 1) C m ps sp := by
  obtain ⟨fd, F⟩ := e
  refine ⟨f, fd, F.ok S len fun cdv A outer s H vs Q E hr h => ?_, M, F.bindsN hb⟩
  obtain ⟨t, h1, h2⟩ := hbody cdv A outer s H vs Q E hr h
  exact ⟨t, h1.nox, h2⟩
theorem OkM.defX (e : ∃ fd, FnM K m q st f fd) (M : Meth K C m f)
    (hb : ∀ (kV doc pm : Value) (an : Option Addr) (cdv ct : Value) (us : List Value), us.length = ps.length → bindArgs (PySem.W.fnOf m q (defArgs st) (defBody st) (defScope st) .none kV doc pm an cdv ct) ⟨us, []⟩ = pure (ps.zip us))
    (S : FnScope N ps (defScope st)) (len : ∀ vs H Q E, sp vs H Q E → vs.length = ps.length)
    (hbody : ∀ (cdv : Value) (A : Around) (outer : List Env) (s : Shared) (H : Hp) (vs : List V) (Q : VK) (E : XK), Room k (A.deeper (envOfC q (defScope st) s.heap.objs.size f cdv)) → sp vs H Q E →
      Takes (cxOf (L2.CX P w) P w K mg base N q (defScope st) f cdv A outer s H E) (fun cls d _ H => E cls d H) →
      ∃ t, PSs (cxOf (L2.CX P w) P w K mg base N q (defScope st) f cdv A outer s H E) (defBody st) t ∧ t { nx := fun _ H' => Q .non H', rt := Q } (start N vs) H) : OkM P w K mg base (L2.CX P w) (k + 1) C m ps sp := by
  obtain ⟨fd, F⟩ := e
  exact ⟨f, fd, F.ok S len fun cdv A outer s H vs Q E hr h => hbody cdv A outer s H vs Q E hr h (takes_of rfl rfl rfl rfl), M, F.bindsN hb⟩
theorem OkK.defX (e : ∃ fd, FnM K m q st f fd) (M : Mk K C f) (g : mg x = some (.ref C))
    (hb : ∀ (kV doc pm : Value) (an : Option Addr) (cdv ct : Value) (us : List Value), us.length = ps.length → bindArgs (PySem.W.fnOf m q (defArgs st) (defBody st) (defScope st) .none kV doc pm an cdv ct) ⟨us, []⟩ = pure (ps.zip us))
    (S : FnScope N ps (defScope st)) (len : ∀ vs H Q E, sp vs H Q E → vs.length = ps.length)
    (hbody : ∀ (cdv : Value) (A : Around) (outer : List Env) (s : Shared) (H : Hp) (vs : List V) (Q : VK) (E : XK), Room k (A.deeper (envOfC q (defScope st) s.heap.objs.size f cdv)) → sp vs H Q E →
      Takes (cxOf (L2.CX P w) P w K mg base N q (defScope st) f cdv A outer s H E) (fun cls d _ H => E cls d H) →
      ∃ t, PSs (cxOf (L2.CX P w) P w K mg base N q (defScope st) f cdv A outer s H E) (defBody st) t ∧ t { nx := fun _ H' => Q .non H', rt := Q } (start N vs) H) : OkK P w K mg base (L2.CX P w) (k + 1) x C ps sp := by
  obtain ⟨fd, F⟩ := e
  exact ⟨f, fd, F.ok S len fun cdv A outer s H vs Q E hr h => hbody cdv A outer s H vs Q E hr h (takes_of rfl rfl rfl rfl), M, g, F.bindsN hb⟩
end
end L2
end
section
set_option maxRecDepth 100000
set_option maxHeartbeats 4000000
namespace K05
open PySem PySem.Spec PyProof.Rows L2
theorem lim_days : (("days" : Str), He.Dv.int 24) ∈ limits := List.mem_of_getElem? (i := 0) rfl
theorem lim_cans : (("cans" : Str), He.Dv.int (10 ^ 12)) ∈ limits := List.mem_of_getElem? (i := 2) rfl
theorem lim_seeds : (("seeds" : Str), He.Dv.int 120) ∈ limits := List.mem_of_getElem? (i := 3) rfl
section
variable {P : Program} {w : World} {K : PySem.W.Frag} {mg : Str → Option Value} {base : Heap}
abbrev cTM (K : PySem.W.Frag) : Addr := He.ga K "TooMany"
abbrev cBG (K : PySem.W.Frag) : Addr := He.ga K "BadGarden"
abbrev cBD (K : PySem.W.Frag) : Addr := He.ga K "BadDay"
abbrev cBS (K : PySem.W.Frag) : Addr := He.ga K "BadSetting"
abbrev cG (K : PySem.W.Frag) : Addr := He.ga K "Garden"
theorem x_TooMany (T : Txt w K mg) : XOk P w K mg base 1 "TooMany" (cTM K) ["self", "what"] (spInit (cTM K) "what") := by
  obtain ⟨fd, F⟩ := fi_TooMany T
  refine ⟨_, fd, xt_TooMany T, F.ok (CX := CX0) sc_TooMany___init__ (fun vs H Q E h => ?_) (fun cdv A outer s H vs Q E hr h => ?_), g_TooMany T, F.bindsN (fun _ _ _ _ _ _ us hl => match us, hl with | [_, _], _ => rfl)⟩
  · obtain ⟨a, v, rfl, _⟩ := h
    rfl
  · obtain ⟨a, v, rfl, ha, k⟩ := h
    refine ⟨_, PSs.nox (pss_cons (ps_expr (pe_seinit (se T) rfl (g_SeenError T) (pa_cons (pv 0) (pa_cons pe_str pa_nil))))
      (pss_one (ps_ost (pv 0) (pv 1)))), ?_⟩
    refine ⟨_, rfl, a, cTM K, [.str _], rfl, (by show 1 ≤ 1000; decide), (xt_TooMany T).oex, ha, ?_⟩
    exact ⟨_, rfl, _, rfl, a, cTM K, rfl, (xt_TooMany T).oex, xn_TooMany_what T, .inl ⟨ha, fun dx hd hne => k dx hd hne⟩⟩
theorem x_BadGarden (T : Txt w K mg) : XOk P w K mg base 1 "BadGarden" (cBG K) ["self", "row"] (spInit (cBG K) "row") := by
  obtain ⟨fd, F⟩ := fi_BadGarden T
  refine ⟨_, fd, xt_BadGarden T, F.ok (CX := CX0) sc_BadGarden___init__ (fun vs H Q E h => ?_) (fun cdv A outer s H vs Q E hr h => ?_), g_BadGarden T, F.bindsN (fun _ _ _ _ _ _ us hl => match us, hl with | [_, _], _ => rfl)⟩
  · obtain ⟨a, v, rfl, _⟩ := h
    rfl
  · obtain ⟨a, v, rfl, ha, k⟩ := h
    refine ⟨_, PSs.nox (pss_cons (ps_expr (pe_seinit (se T) rfl (g_SeenError T) (pa_cons (pv 0) (pa_cons pe_str pa_nil))))
      (pss_one (ps_ost (pv 0) (pv 1)))), ?_⟩
    refine ⟨_, rfl, a, cBG K, [.str _], rfl, (by show 1 ≤ 1000; decide), (xt_BadGarden T).oex, ha, ?_⟩
    exact ⟨_, rfl, _, rfl, a, cBG K, rfl, (xt_BadGarden T).oex, xn_BadGarden_row T, .inl ⟨ha, fun dx hd hne => k dx hd hne⟩⟩
theorem x_BadDay (T : Txt w K mg) : XOk P w K mg base 1 "BadDay" (cBD K) ["self", "day"] (spInit (cBD K) "day") := by
  obtain ⟨fd, F⟩ := fi_BadDay T
  refine ⟨_, fd, xt_BadDay T, F.ok (CX := CX0) sc_BadDay___init__ (fun vs H Q E h => ?_) (fun cdv A outer s H vs Q E hr h => ?_), g_BadDay T, F.bindsN (fun _ _ _ _ _ _ us hl => match us, hl with | [_, _], _ => rfl)⟩
  · obtain ⟨a, v, rfl, _⟩ := h
    rfl
  · obtain ⟨a, v, rfl, ha, k⟩ := h
    refine ⟨_, PSs.nox (pss_cons (ps_expr (pe_seinit (se T) rfl (g_SeenError T) (pa_cons (pv 0) (pa_cons pe_str pa_nil))))
      (pss_one (ps_ost (pv 0) (pv 1)))), ?_⟩
    refine ⟨_, rfl, a, cBD K, [.str _], rfl, (by show 1 ≤ 1000; decide), (xt_BadDay T).oex, ha, ?_⟩
    exact ⟨_, rfl, _, rfl, a, cBD K, rfl, (xt_BadDay T).oex, xn_BadDay_day T, .inl ⟨ha, fun dx hd hne => k dx hd hne⟩⟩
theorem x_BadSetting (T : Txt w K mg) : XOk P w K mg base 1 "BadSetting" (cBS K) ["self", "what"] (spInit (cBS K) "what") := by
  obtain ⟨fd, F⟩ := fi_BadSetting T
  refine ⟨_, fd, xt_BadSetting T, F.ok (CX := CX0) sc_BadSetting___init__ (fun vs H Q E h => ?_) (fun cdv A outer s H vs Q E hr h => ?_), g_BadSetting T, F.bindsN (fun _ _ _ _ _ _ us hl => match us, hl with | [_, _], _ => rfl)⟩
  · obtain ⟨a, v, rfl, _⟩ := h
    rfl
  · obtain ⟨a, v, rfl, ha, k⟩ := h
    refine ⟨_, PSs.nox (pss_cons (ps_expr (pe_seinit (se T) rfl (g_SeenError T) (pa_cons (pv 0) (pa_cons pe_str pa_nil))))
      (pss_one (ps_ost (pv 0) (pv 1)))), ?_⟩
    refine ⟨_, rfl, a, cBS K, [.str _], rfl, (by show 1 ≤ 1000; decide), (xt_BadSetting T).oex, ha, ?_⟩
    exact ⟨_, rfl, _, rfl, a, cBS K, rfl, (xt_BadSetting T).oex, xn_BadSetting_what T, .inl ⟨ha, fun dx hd hne => k dx hd hne⟩⟩
def spCheck (K : PySem.W.Frag) : Sp := fun vs H Q E => ∃ (z : Str) (n m : Int), vs = [.str z, .int n] ∧ (z, He.Dv.int m) ∈ limits ∧ (n ≤ m → Q .non H) ∧ (m < n → Rz E H (cTM K) "what" (.str z))
theorem ok_check (T : Txt w K mg) : Ok P w K mg base (L2.CX P w) 4 "check" ["what", "number"] (spCheck K) := by
  refine Ok.defX (f_check T) (fun _ _ _ _ _ _ us hl => match us, hl with | [_, _], _ => rfl) sc_check (fun vs H Q E h => ?_) (fun f cdv A outer s H vs Q E hr h tk => ?_)
  · obtain ⟨z, n, m, rfl, _⟩ := h
    rfl
  · obtain ⟨z, n, m, rfl, hz, k1, k2⟩ := h
    refine ⟨_, (pss_one (ps_if (pt_cmpR op_gt (pv 1) (pe_ix ix_kdict (pe_glob (v := .ref _) rfl (g_LIMITS T) rfl) (pv 0) (fun _ _ => rfl)) (nomark _)) (pss_one (ps_raise rfl tk (pmk_x (x_TooMany T) (hr.mono (by first | decide | omega)) rfl (pa_cons (pv 0) pa_nil)))) pss_nil)), ?_⟩
    refine ⟨_, rfl, _, rfl, _, z, .int m, rfl, rfl, lim T hz, _, _, rfl, rfl, _, rfl, ?_⟩
    refine ite2 (fun c => ?_) (fun c => ?_)
    · exact ⟨_, rfl, mko ((k2 (of_decide_eq_true c)).at (Same.refl H))⟩
    · exact k1 (by simpa using c)
/-- is the day between; else BadDay of it -/
def spDay (K : PySem.W.Frag) : Sp := fun vs H Q E => ∃ (d a b : Int), vs = [.int d, .int a, .int b] ∧ (a ≤ d → d ≤ b → Q .non H) ∧ (¬ (a ≤ d ∧ d ≤ b) → Rz E H (cBD K) "day" (.int d))
theorem ok_check_day (T : Txt w K mg) : Ok P w K mg base (L2.CX P w) 4 "check_day" ["day", "first", "days"] (spDay K) := by
  refine Ok.defX (f_check_day T) (fun _ _ _ _ _ _ us hl => match us, hl with | [_, _, _], _ => rfl) sc_check_day (fun vs H Q E h => ?_) (fun f cdv A outer s H vs Q E hr h tk => ?_)
  · obtain ⟨d, a, b, rfl, _⟩ := h
    rfl
  · obtain ⟨d, a, b, rfl, k1, k2⟩ := h
    refine ⟨_, (pss_one (ps_if (PW.pt (pw_or (pt_cmpR op_lt (pv 0) (pv 1) (nomark _)) (pw_or1 (pt_cmpR op_gt (pv 0) (pv 2) (nomark _))))) (pss_one (ps_raise rfl tk (pmk_x (x_BadDay T) (hr.mono (by first | decide | omega)) rfl (pa_cons (pv 0) pa_nil)))) pss_nil)), ?_⟩
    refine ⟨_, rfl, _, rfl, _, _, rfl, rfl, _, rfl, ?_⟩
    cases q1 : decide (d < a) with
    | true => exact ⟨_, rfl, mko ((k2 (by have := of_decide_eq_true q1; omega)).at (Same.refl H))⟩
    | false =>
      refine ⟨_, rfl, _, rfl, _, _, rfl, rfl, _, rfl, ?_⟩
      refine ite2 (fun c => ?_) (fun c => ?_)
      · exact ⟨_, rfl, mko ((k2 (by have := of_decide_eq_true c; omega)).at (Same.refl H))⟩
      · exact k1 (by have := of_decide_eq_false q1; omega) (Int.not_lt.mp fun z => c (decide_eq_true z))
def badS (d a b : Int) : Option Int := if ¬ (0 ≤ a ∧ a ≤ d) then some a else if ¬ (0 ≤ b ∧ b ≤ d) then some b else if b < a then some b else none
def spStretch (K : PySem.W.Frag) : Sp := fun vs H Q E => ∃ (a b d : Int), vs = [.int a, .int b, .int d] ∧ (badS d a b = none → Q .non H) ∧ (∀ x, badS d a b = some x → Rz E H (cBD K) "day" (.int x))
theorem ok_check_stretch (T : Txt w K mg) : Ok P w K mg base (L2.CX P w) 5 "check_stretch" ["a", "b", "days"] (spStretch K) := by
  refine Ok.defX (f_check_stretch T) (fun _ _ _ _ _ _ us hl => match us, hl with | [_, _, _], _ => rfl) sc_check_stretch (fun vs H Q E h => ?_) (fun f cdv A outer s H vs Q E hr h tk => ?_)
  · obtain ⟨a, b, d, rfl, _⟩ := h
    rfl
  · obtain ⟨a, b, d, rfl, k1, k2⟩ := h
    refine ⟨_, (pss_cons (ps_expr (pe_okS (ok_check_day T) (hr.mono (by first | decide | omega)) rfl (fun σ => passAt tk σ) (pa_cons (pv 0) (pa_cons pe_int (pa_cons (pv 2) pa_nil)))))
      (pss_cons (ps_expr (pe_okS (ok_check_day T) (hr.mono (by first | decide | omega)) rfl (fun σ => passAt tk σ) (pa_cons (pv 1) (pa_cons pe_int (pa_cons (pv 2) pa_nil)))))
      (pss_one (ps_if (pt_cmpR op_lt (pv 1) (pv 0) (nomark _)) (pss_one (ps_raise rfl tk (pmk_x (x_BadDay T) (hr.mono (by first | decide | omega)) rfl (pa_cons (pv 1) pa_nil)))) pss_nil)))), ?_⟩
    refine ⟨_, rfl, _, rfl, a, 0, d, rfl, fun h1 h2 => ?_, fun h => k2 a (by unfold badS; rw [if_pos h])⟩
    refine ⟨_, rfl, _, rfl, b, 0, d, rfl, fun h3 h4 => ?_, fun h => k2 b (by unfold badS; rw [if_neg (by omega), if_pos h])⟩
    refine ⟨_, rfl, _, rfl, _, _, rfl, rfl, _, rfl, ?_⟩
    refine ite2 (fun c => ?_) (fun c => ?_)
    · exact ⟨_, rfl, mko ((k2 b (by unfold badS; rw [if_neg (by omega), if_neg (by omega), if_pos (of_decide_eq_true c)])).at (Same.refl H))⟩
    · exact k1 (by unfold badS; rw [if_neg (by omega), if_neg (by omega), if_neg (fun z => c (decide_eq_true z))])
end
end K05
end
section
set_option maxRecDepth 100000
set_option maxHeartbeats 4000000
namespace K05
open PySem PySem.Spec PyProof.Rows L2
section
variable {P : Program} {w : World} {K : PySem.W.Frag} {mg : Str → Option Value} {base : Heap}
theorem ok__law_draw (T : Txt w K mg) : Ok P w K mg base CX0 1 "_law_draw" ["stock", "many"] spDraw := by
  refine Ok.def0 (f__law_draw T) (fun _ _ _ _ _ _ us hl => match us, hl with | [_, _], _ => rfl) sc__law_draw (fun vs H Q E h => ?_) (fun f cdv A outer s H vs Q E hr h => ?_)
  · obtain ⟨sa, m, rfl, _⟩ := h
    rfl
  · obtain ⟨sa, m, rfl, h0, h1, ⟨a, b, c, hs⟩, k⟩ := h
    have hm : m ≠ 0 := by omega
    refine ⟨_, (pss_cons (ps_if (pt_cmpR op_gt (pe_ix (ix_listK (K := K) rfl) (pv 0) pe_int (fun _ _ => rfl)) pe_int (nomark _)) (pss_cons (ps_set (i := 2) sc__law_draw.nd rfl (by first | exact Or.inl rfl | exact Or.inr rfl) (pe_op op_modN (pe_callTy call_int1 rfl (n_int T) (by decide +kernel) (pa_cons (pe_ix (ix_listK (K := K) rfl) (pv 0) pe_int (fun _ _ => rfl)) pa_nil)) (pv 1)))
      (pss_cons (ps_asg (pe_op op_fdivN (pe_ix (ix_listK (K := K) rfl) (pv 0) pe_int (fun _ _ => rfl)) (pv 1)) (pg_sub (pv 0) pe_int set_list))
      (pss_one (ps_ret (pv 2))))) pss_nil)
      (pss_cons (ps_augS (pv 0) pe_int (get_listK (K := K) rfl) pe_int ip_add set_list)
      (pss_cons (ps_asg (pe_op op_modN (pe_callTy call_int1 rfl (n_int T) (by decide +kernel) (pa_cons (pe_op op_add (pe_op op_mul (pe_ix (ix_listK (K := K) rfl) (pv 0) pe_int (fun _ _ => rfl)) pe_int) (pe_op op_mul (pe_ix (ix_listK (K := K) rfl) (pv 0) pe_int (fun _ _ => rfl)) pe_int)) pa_nil)) pe_int) (pg_sub (pv 0) pe_int set_list))
      (pss_one (ps_ret (pe_op op_modN (pe_op op_fdivN (pe_op op_modN (pe_callTy call_int1 rfl (n_int T) (by decide +kernel) (pa_cons (pe_op op_add (pe_op op_mul (pe_ix (ix_listK (K := K) rfl) (pv 0) pe_int (fun _ _ => rfl)) pe_int) (pe_op op_mul (pe_ix (ix_listK (K := K) rfl) (pv 0) pe_int (fun _ _ => rfl)) pe_int)) pa_nil)) pe_int) pe_int) (pv 1))))))), ?_⟩
    refine ⟨_, rfl, sa, _, 0, _, rfl, rfl, SqL.of hs, rfl, _, _, rfl, rfl, _, rfl, ?_⟩
    refine ite2 (fun c1 => ?_) (fun c1 => ?_)
    · refine ⟨_, rfl, sa, _, 0, _, rfl, rfl, SqL.of hs, rfl, .inl ⟨_, rfl, _, rfl, _, _, rfl, rfl, hm, ?_⟩⟩
      refine ⟨_, rfl, sa, _, 0, _, rfl, rfl, SqL.of hs, rfl, _, rfl, _, _, rfl, rfl, ⟨hm, by omega⟩, _, rfl, sa, _, 0, 0, rfl, rfl, hs, rfl, ?_⟩
      refine ⟨_, rfl, k _ _ _ _ (fmod_range a h0).1 (fmod_range a h0).2⟩
    · refine ⟨_, rfl, sa, _, 2, _, rfl, rfl, SqL.of hs, rfl, _, _, rfl, rfl, sa, _, 2, 2, rfl, rfl, hs, rfl, ?_⟩
      refine ⟨_, rfl, sa, _, 1, _, rfl, rfl, SqL.of upd_same, rfl, _, _, rfl, rfl, .inr (by decide), _, rfl, sa, _, 2, _, rfl, rfl, SqL.of upd_same, rfl, _, _, rfl, rfl, .inr (by decide), _, _, rfl, rfl, .inl ⟨_, rfl, _, _, rfl, rfl, (by show (2147483647 : Int) ≠ 0; decide), _, rfl, sa, _, 1, 1, rfl, rfl, upd_same, rfl, ?_⟩⟩
      refine ⟨_, rfl, sa, _, 1, _, rfl, rfl, SqL.of upd_same, rfl, _, _, rfl, rfl, .inr (by decide), _, rfl, sa, _, 2, _, rfl, rfl, SqL.of upd_same, rfl, _, _, rfl, rfl, .inr (by decide), _, _, rfl, rfl, .inl ⟨_, rfl, _, _, rfl, rfl, (by show (2147483629 : Int) ≠ 0; decide), _, _, rfl, rfl, ⟨by decide, by decide⟩, _, rfl, _, _, rfl, rfl, hm, ?_⟩⟩
      rw [upd_upd]
      exact k _ _ _ _ (fmod_range _ h0).1 (fmod_range _ h0).2
theorem ok__law_stock (T : Txt w K mg) : Ok P w K mg base CX0 1 "_law_stock" ["script", "at"] (spStock K) := by
  refine Ok.def0 (f__law_stock T) (fun _ _ _ _ _ _ us hl => match us, hl with | [_, _], _ => rfl) sc__law_stock (fun vs H Q E h => ?_) (fun f cdv A outer s H vs Q E hr h => ?_)
  · obtain ⟨a, ns, z, rfl, _⟩ := h
    rfl
  · obtain ⟨a, ns, z, rfl, hS, hl, h0, h1, k⟩ := h
    refine ⟨_, (pss_cons (ps_set (i := 3) sc__law_stock.nd rfl (by first | exact Or.inl rfl | exact Or.inr rfl) (pe_ifExp (pt_cmpR op_lt (pv 1) (pe_callB (len_seqK (K := K) rfl) rfl (n_len T) (by decide +kernel) (pa_cons (pv 0) pa_nil)) (nomark _)) (pe_callTy call_int1 rfl (n_int T) (by decide +kernel) (pa_cons (pe_ix (ix_listK (K := K) rfl) (pv 0) (pv 1) (fun _ _ => rfl)) pa_nil)) (pe_op op_mul pe_int (pe_callB (sumK (K := K) rfl rfl) rfl (n_sum T) (by decide +kernel) (pa_cons (pe_lc (own := [("one", 2)]) rfl sc__law_stock.nd (pi_listK (K := K) rfl (pe_slice (sl_listK (K := K) rfl) (pv 0) po_none (po_some pe_int))) (blkOk_by (N := ["script", "at", "one", "cell", "size", "small"]) (sc := defScope s__law_stock) (by decide +kernel)) (fun _ _ _ _ _ => (pg_name (i := 2) sc__law_stock.nd rfl (by first | exact Or.inl rfl | exact Or.inr rfl))) (fun _ _ _ _ _ => pts_nil) (fun _ _ _ _ _ => (pe_op op_modN (pe_callTy call_int1 rfl (n_int T) (by decide +kernel) (pa_cons (pv 2) pa_nil)) pe_int))) pa_nil)))))
      (pss_cons (ps_set (i := 4) sc__law_stock.nd rfl (by first | exact Or.inl rfl | exact Or.inr rfl) (pe_callB call_abs rfl (n_abs T) (by decide +kernel) (pa_cons (pv 3) pa_nil)))
      (pss_cons (ps_set (i := 5) sc__law_stock.nd rfl (by first | exact Or.inl rfl | exact Or.inr rfl) (pe_op op_modN (pe_callTy call_int1 rfl (n_int T) (by decide +kernel) (pa_cons (pe_op op_add (pe_op op_add (pe_op op_add (pe_op op_mul pe_int (pv 4)) (pe_ifExp (pt_cmpR op_lt (pv 3) pe_int (nomark _)) pe_int pe_int)) (pe_op op_mul (pv 1) pe_int)) pe_int) pa_nil)) pe_int))
      (pss_one (ps_ret (pe_lst (pa_cons (pe_ifExp (pt_cmpR op_ge (pv 4) (pe_op op_pow pe_int pe_int) (nomark _)) (pv 4) pe_int) (pa_cons (pe_op op_modN (pe_callTy call_int1 rfl (n_int T) (by decide +kernel) (pa_cons (pe_op op_mul (pe_op op_add (pv 5) pe_int) (pe_op op_add (pv 5) pe_int)) pa_nil)) pe_int) (pa_cons (pv 1) pa_nil))))))))), ?_⟩
    refine st_let (fun v H' => ∃ c, v = .int c ∧ Same H H') (fun R hR => ?_) (fun v H1 hv => ?_)
    · refine ⟨_, rfl, _, rfl, _, _, rfl, .inl hS, _, _, rfl, rfl, _, rfl, ?_⟩
      refine ite2 (fun c1 => ?_) (fun c1 => ?_)
      · have c2 : z < (ns.map V.int).length := of_decide_eq_true c1
        rw [ints_len] at c2
        obtain ⟨n, hn⟩ : ∃ n, ns[z.toNat]? = some n := ⟨ns[z.toNat]'(by omega), List.getElem?_eq_getElem (by omega)⟩
        exact ⟨_, rfl, _, rfl, a, _, z, _, rfl, rfl, hS, atI_int h0 (ints_at hn), .inl ⟨_, rfl, hR _ _ ⟨_, rfl, Same.refl H⟩⟩⟩
      · obtain ⟨ms, e1, e2⟩ := cutV_map V.int ns none (some 4)
        refine ⟨_, rfl, _, rfl, a, _, rfl, hS, fun p hp => ?_⟩
        rw [e1]
        have s1 : Same H (upd H p (.lst (ms.map V.int))) := same_new hp
        refine ⟨p, rfl, ⟨_, SqL.of upd_same⟩, fun D hD => lc_acc (K := K) (a := p) (xs := ms.map V.int) hD (SqL.of upd_same) (by rw [ints_len, e2]; exact Nat.lt_of_le_of_lt (List.length_take_le' _ _) (by rw [List.length_drop]; omega)) (fun i acc H' => ∃ zs : List Int, acc = zs.map V.int) (fun _ _ => ⟨[], rfl⟩) ?_ ?_⟩
        · rintro i x acc H' N N0 hx s2 hacc ⟨zs, rfl⟩ hN hN0
          obtain ⟨y, hy, rfl⟩ := ints_get hx
          refine ⟨rfl, ?_⟩
          exact ⟨_, rfl, .inl ⟨_, rfl, _, _, rfl, rfl, (by show (1000003 : Int) ≠ 0; decide), hN _ _ (Same.refl _) fun _ _ _ => ⟨zs ++ [y.fmod 1000003], by rw [List.map_append]; rfl⟩⟩⟩
        · rintro acc H' s2 hacc _ ⟨zs, rfl⟩
          exact ⟨D, zs, rfl, SqL.of hacc, _, _, rfl, rfl, .inl (by decide), hR _ _ ⟨_, rfl, s1.trans s2⟩⟩
    · obtain ⟨c, rfl, s1⟩ := hv
      -- size = abs(cell)
      refine ⟨_, rfl, _, rfl, ?_⟩
      generalize hsz : (if c < 0 then -c else c) = size
      -- small = ..
      refine nxE (st_let (fun v H' => ∃ d : Int, v = .int d ∧ 0 ≤ d ∧ d < 2147483629 ∧ H' = H1) (fun R hR => ?_) (fun v H2 hv => ?_))
      · refine ⟨_, rfl, _, _, rfl, rfl, .inl (by decide), ?_⟩
        have fin : ∀ k : Int, R (.int ((2 * size + k + z * 104729 + 12345).fmod 2147483629)) H1 := fun k => hR _ _ ⟨_, rfl, (fmod_range _ (by decide)).1, (fmod_range _ (by decide)).2, rfl⟩
        refine ⟨_, rfl, _, _, rfl, rfl, _, rfl, ?_⟩
        refine ite2 (fun c1 => ?_) (fun c1 => ?_)
        · exact ⟨_, _, rfl, rfl, _, rfl, _, _, rfl, rfl, .inr (by decide), _, _, rfl, rfl, _, _, rfl, rfl, .inl ⟨_, rfl, _, _, rfl, rfl, (by show (2147483629 : Int) ≠ 0; decide), fin 1⟩⟩
        · exact ⟨_, _, rfl, rfl, _, rfl, _, _, rfl, rfl, .inr (by decide), _, _, rfl, rfl, _, _, rfl, rfl, .inl ⟨_, rfl, _, _, rfl, rfl, (by show (2147483629 : Int) ≠ 0; decide), fin 0⟩⟩
      · obtain ⟨d, rfl, d0, d1, rfl⟩ := hv
        -- return [..]
        have fin : ∀ e : Int, ∀ p, H2 p = none → Q (.ref p) (upd H2 p (.lst [.int e, .int (((d + 7919) * (d + 104729)).fmod 2147483629), .int z])) := fun e p hp => k p _ (s1.free hp) (s1.trans (same_new hp)) ⟨_, _, _, upd_same⟩
        refine ⟨_, rfl, _, _, rfl, rfl, ⟨by decide, by decide, by decide⟩, _, _, rfl, rfl, _, rfl, ?_⟩
        refine ite2 (fun c1 => ?_) (fun c1 => ?_)
        · exact ⟨_, rfl, _, rfl, _, _, rfl, rfl, _, rfl, _, _, rfl, rfl, _, _, rfl, rfl, .inl ⟨by show -(2 ^ 64) < d + 7919; omega, by show d + 7919 < 2 ^ 64; omega⟩, .inl ⟨_, rfl, _, _, rfl, rfl, (by show (2147483629 : Int) ≠ 0; decide), _, rfl, (by show 3 ≤ sizeLine; decide), fun p hp => fin _ p hp⟩⟩
        · exact ⟨_, rfl, _, _, rfl, rfl, _, rfl, _, _, rfl, rfl, _, _, rfl, rfl, .inl ⟨by show -(2 ^ 64) < d + 7919; omega, by show d + 7919 < 2 ^ 64; omega⟩, .inl ⟨_, rfl, _, _, rfl, rfl, (by show (2147483629 : Int) ≠ 0; decide), _, rfl, (by show 3 ≤ sizeLine; decide), fun p hp => fin _ p hp⟩⟩
end
end K05
end
section
set_option maxRecDepth 100000
set_option maxHeartbeats 4000000
namespace K05
open PySem PySem.Spec PyProof.Rows L2
end K05
namespace L2
open PySem PySem.Spec PyProof.Rows
theorem PairT.un {K : PySem.W.Frag} {H : Hp} {x : V} {c : Int × Int} (h : PairT H x c) {σ : L2.St} {i j n : Nat} (hn : n = 2) {Q : L2.St → Hp → Prop} (q : Q ((σ.set i (some (.int c.1))).set j (some (.int c.2))) H) : gTup K n (gCons (gName i) (gCons (gName j) gNil)) x σ H Q := by
  subst hn
  obtain ⟨t, rfl, h⟩ := h
  exact ⟨t, _, rfl, SqT.of h, rfl, _, _, rfl, _, _, rfl, rfl, q⟩
theorem PairT.i0 {K : PySem.W.Frag} {H : Hp} {x : V} {c : Int × Int} (h : PairT H x c) {Q : VK} (q : Q (.int c.1) H) : rIx K x (.int 0) H Q := by
  obtain ⟨t, rfl, h⟩ := h
  exact .inr (.inl ⟨t, _, 0, _, rfl, rfl, SqT.of h, rfl, q⟩)
theorem PairT.i1 {K : PySem.W.Frag} {H : Hp} {x : V} {c : Int × Int} (h : PairT H x c) {Q : VK} (q : Q (.int c.2) H) : rIx K x (.int 1) H Q := by
  obtain ⟨t, rfl, h⟩ := h
  exact .inr (.inl ⟨t, _, 1, _, rfl, rfl, SqT.of h, rfl, q⟩)
end L2
namespace K05
open PySem PySem.Spec PyProof.Rows L2
theorem flt_take {α : Type} {p : α → Bool} {l : List α} {i : Nat} {c : α} (h : l[i]? = some c) (b : Bool) (hb : p c = b) : ((l.take (i + 1)).filter p).length = ((l.take i).filter p).length + (if b then 1 else 0) := by
  rw [take_get h, List.filter_append, List.length_append, List.filter_cons, hb]
  cases b <;> rfl
/-! ### a garden -/
abbrev gf (d : Int) (l : Addr) : List (Str × V) := [("days_number", V.int d), ("seed_list", V.ref l)]
theorem gf_days (d : Int) (l : Addr) : (gf d l).lookup ("days_number" : Str) = some (.int d) := by simp [List.lookup]
theorem gf_seeds (d : Int) (l : Addr) : (gf d l).lookup ("seed_list" : Str) = some (.ref l) := by
  have e : (("seed_list" : Str) == ("days_number" : Str)) = false := by decide +kernel
  simp [List.lookup, e]
def GardenAt (K : PySem.W.Frag) (H : Hp) (p : Addr) (d : Int) (ws : List (Int × Int)) : Prop := ∃ dx l xs, H p = some (.ins (cG K) dx (gf d l)) ∧ H l = some (.lst xs) ∧ Paired (PairT H) xs ws
theorem GardenAt.same {K : PySem.W.Frag} {H H' : Hp} {p : Addr} {d : Int} {ws : List (Int × Int)} (e : Same H H') (h : GardenAt K H p d ws) : GardenAt K H' p d ws := by
  obtain ⟨dx, l, xs, h1, h2, h3⟩ := h
  exact ⟨dx, l, xs, e _ _ h1, e _ _ h2, Paired.mapP h3 fun _ _ z => z.same e⟩
/-- a garden whose row of seeds was made after H0 -/
def GardenN (K : PySem.W.Frag) (H0 H : Hp) (p : Addr) (d : Int) (ws : List (Int × Int)) : Prop := ∃ dx l xs, H0 l = none ∧ H p = some (.ins (cG K) dx (gf d l)) ∧ H l = some (.lst xs) ∧ Paired (PairT H) xs ws
theorem none_of {H H' : Hp} {a : Addr} (e : Same H H') (h : H' a = none) : H a = none := by
  cases q : H a with
  | none => rfl
  | some o => rw [e _ _ q] at h; cases h
theorem GardenN.at {K : PySem.W.Frag} {H0 H : Hp} {p : Addr} {d : Int} {ws : List (Int × Int)} (h : GardenN K H0 H p d ws) : GardenAt K H p d ws := by
  obtain ⟨dx, l, xs, _, h⟩ := h
  exact ⟨dx, l, xs, h⟩
theorem GardenN.same {K : PySem.W.Frag} {H0 H H' : Hp} {p : Addr} {d : Int} {ws : List (Int × Int)} (e : Same H H') (h : GardenN K H0 H p d ws) : GardenN K H0 H' p d ws := by
  obtain ⟨dx, l, xs, h0, h1, h2, h3⟩ := h
  exact ⟨dx, l, xs, h0, e _ _ h1, e _ _ h2, Paired.mapP h3 fun _ _ z => z.same e⟩
theorem GardenN.dn {K : PySem.W.Frag} {H0 H1 H : Hp} {p : Addr} {d : Int} {ws : List (Int × Int)} (e : Same H0 H1) (h : GardenN K H1 H p d ws) : GardenN K H0 H p d ws := by
  obtain ⟨dx, l, xs, h0, h⟩ := h
  exact ⟨dx, l, xs, none_of e h0, h⟩
theorem GardenN.mut {K : PySem.W.Frag} {H0 H : Hp} {p q : Addr} {d : Int} {ws : List (Int × Int)} {ys : List V} {o : HO} (h0 : H0 q ≠ none) (hq : H q = some (.lst ys)) (h : GardenN K H0 H p d ws) : GardenN K H0 (upd H q o) p d ws := by
  obtain ⟨dx, l, xs, n, h1, h2, h3⟩ := h
  refine ⟨dx, l, xs, n, ?_, ?_, Paired.mapP h3 fun _ _ z => z.mut hq⟩
  · rw [upd_ne fun z => by rw [z, hq] at h1; cases h1]
    exact h1
  · rw [upd_ne (fun z => h0 (by rw [← z]; exact n))]
    exact h2
/-- wrong windows: the first row from k on -/
def badW (T : Int) (c : Int × Int) : Bool := decide (c.1 < 1) || (decide (c.2 < c.1) || decide (T < c.2))
def fbadW (T : Int) : Int → List (Int × Int) → Int
  | _, [] => 0
  | k, c :: r => if badW T c = true then k else fbadW T (k + 1) r
section
variable {P : Program} {w : World} {K : PySem.W.Frag} {mg : Str → Option Value} {base : Heap}
def spGRows (K : PySem.W.Frag) : Sp := fun vs H Q _ => ∃ p d ws, vs = [.ref p] ∧ GardenAt K H p d ws ∧ ∀ l xs H', H l = none → Same H H' → H' l = some (.lst xs) → Paired (PairT H') xs ws → Q (.ref l) H'
theorem okm_Garden_rows (T : Txt w K mg) : OkM P w K mg base CX0 1 (cG K) "rows" ["self"] (spGRows K) := by
  refine OkM.def0 (fm_Garden_rows T) (me_Garden_rows T) (fun _ _ _ _ _ _ us hl => match us, hl with | [_], _ => rfl) sc_Garden_rows (fun vs H Q E h => ?_) (fun cdv A outer s H vs Q E hr h => ?_)
  · obtain ⟨p, d, ws, rfl, _⟩ := h
    rfl
  · obtain ⟨p, d, ws, rfl, ⟨dx, l, xs, h1, h2, h3⟩, k⟩ := h
    refine ⟨_, (pss_one (ps_ret (pe_callTy (list_ofK (K := K) rfl) rfl (n_list T) (by decide +kernel) (pa_cons (pe_fld (pv 0) rfl) pa_nil)))), ?_⟩
    refine ⟨_, rfl, p, _, dx, _, _, rfl, h1, cl_Garden T, na_Garden_seed_list T, gf_seeds d l, l, xs, rfl, .inl (SqL.of h2), fun m hm => ?_⟩
    obtain ⟨s1, g1⟩ := new2 (.lst xs) hm
    exact k m xs _ hm s1 g1 (Paired.mapP h3 fun _ _ z => z.same s1)
def inC (a b : Int) (ws : List (Int × Int)) : Nat := (ws.filter fun c => decide (a < c.1) && decide (c.2 ≤ b)).length
end
end K05
end
section
set_option maxRecDepth 100000
set_option maxHeartbeats 4000000
namespace K05
open PySem PySem.Spec PyProof.Rows L2
section
variable {P : Program} {w : World} {K : PySem.W.Frag} {mg : Str → Option Value} {base : Heap}
def spGInit (K : PySem.W.Frag) : Sp := fun vs H Q E => ∃ p dx d s ys ws, vs = [.ref p, .int d, .ref s] ∧ H p = some (.ins (cG K) dx []) ∧ H s = some (.lst ys) ∧ Paired (PairT H) ys ws ∧ ys.length ≤ 1000 ∧
  (24 < d → Rz E H (cTM K) "what" (.str "days")) ∧ (d ≤ 24 → 120 < ws.length → Rz E H (cTM K) "what" (.str "seeds")) ∧ (d < 1 → ws.length ≤ 120 → Rz E H (cBG K) "row" (.int 0)) ∧
  (1 ≤ d → d ≤ 24 → ws.length ≤ 120 → fbadW d 1 ws ≠ 0 → Rz E H (cBG K) "row" (.int (fbadW d 1 ws))) ∧
  (1 ≤ d → d ≤ 24 → ws.length ≤ 120 → fbadW d 1 ws = 0 → ∀ H', But p H H' → GardenN K H H' p d ws → Q .non H')
theorem okk_Garden (T : Txt w K mg) : OkK P w K mg base (L2.CX P w) 5 "Garden" (cG K) ["self", "days", "seeds"] (spGInit K) := by
  refine OkK.defX (fm_Garden___init__ T) (mk_Garden T) (g_Garden T) (fun _ _ _ _ _ _ us hl => match us, hl with | [_, _, _], _ => rfl) sc_Garden___init__ (fun vs H Q E h => ?_) (fun cdv A outer s H vs Q E hr h tk => ?_)
  · obtain ⟨p, dx, d, s, ys, ws, rfl, _⟩ := h
    rfl
  · obtain ⟨p, dx, d, sd, ys, ws, rfl, hp, hS, hP, hl, e1, e2, e3, e4, k⟩ := h
    refine ⟨_, (pss_cons (ps_expr (pe_okS (ok_check T) (hr.mono (by first | decide | omega)) rfl (fun σ => passAt tk σ) (pa_cons pe_str (pa_cons (pv 1) pa_nil))))
      (pss_cons (ps_expr (pe_okS (ok_check T) (hr.mono (by first | decide | omega)) rfl (fun σ => passAt tk σ) (pa_cons pe_str (pa_cons (pe_callB (len_seqK (K := K) rfl) rfl (n_len T) (by decide +kernel) (pa_cons (pv 2) pa_nil)) pa_nil))))
      (pss_cons (ps_if (pt_cmpR op_lt (pv 1) pe_int (nomark _)) (pss_one (ps_raise rfl tk (pmk_x (x_BadGarden T) (hr.mono (by first | decide | omega)) rfl (pa_cons pe_int pa_nil)))) pss_nil)
      (pss_cons (ps_for (passes_of rfl) rfl (pi_range1 rfl (n_range T) (pa_cons (pe_callB (len_seqK (K := K) rfl) rfl (n_len T) (by decide +kernel) (pa_cons (pv 2) pa_nil)) pa_nil)) (pg_name (i := 3) sc_Garden___init__.nd rfl (by first | exact Or.inl rfl | exact Or.inr rfl))
        (pss_one (ps_if (PW.pt (pw_or (pt_cmpR op_lt (pe_ix (ix_seqK (K := K) rfl) (pe_ix (ix_listK (K := K) rfl) (pv 2) (pv 3) (fun _ _ => rfl)) pe_int (fun _ _ => rfl)) pe_int (nomark _)) (pw_or (pt_cmpR op_lt (pe_ix (ix_seqK (K := K) rfl) (pe_ix (ix_listK (K := K) rfl) (pv 2) (pv 3) (fun _ _ => rfl)) pe_int (fun _ _ => rfl)) (pe_ix (ix_seqK (K := K) rfl) (pe_ix (ix_listK (K := K) rfl) (pv 2) (pv 3) (fun _ _ => rfl)) pe_int (fun _ _ => rfl)) (nomark _)) (pw_or1 (pt_cmpR op_gt (pe_ix (ix_seqK (K := K) rfl) (pe_ix (ix_listK (K := K) rfl) (pv 2) (pv 3) (fun _ _ => rfl)) pe_int (fun _ _ => rfl)) (pv 1) (nomark _)))))) (pss_one (ps_raise rfl tk (pmk_x (x_BadGarden T) (hr.mono (by first | decide | omega)) rfl (pa_cons (pe_op op_add (pv 3) pe_int) pa_nil)))) pss_nil)))
      (pss_cons (ps_fld (pv 0) (pv 1) rfl)
      (pss_one (ps_fld (pv 0) (pe_lc (own := [("first", 4), ("last", 5)]) rfl sc_Garden___init__.nd (pi_listK (K := K) rfl (pv 2)) (blkOk_by (N := ["self", "days", "seeds", "at", "first", "last"]) (sc := defScope s_Garden___init__) (by decide +kernel)) (fun _ _ _ _ _ => (pg_tupK (K := K) (n := 2) rfl rfl (pgs_cons (pg_name (i := 4) sc_Garden___init__.nd rfl (by first | exact Or.inl rfl | exact Or.inr rfl)) (pgs_cons (pg_name (i := 5) sc_Garden___init__.nd rfl (by first | exact Or.inl rfl | exact Or.inr rfl)) pgs_nil)))) (fun _ _ _ _ _ => pts_nil) (fun _ _ _ _ _ => (pe_tup (pa_cons (pv 4) (pa_cons (pv 5) pa_nil))))) rfl))))))), ?_⟩
    refine ⟨_, rfl, "days", d, 24, rfl, lim_days, fun c1 => ?_, fun c1 => e1 c1⟩
    refine ⟨_, rfl, _, _, rfl, .inl (SqL.of hS), "seeds", _, 120, rfl, lim_seeds, fun c2 => ?_, fun c2 => e2 c1 (by rw [Paired.length hP] at c2; omega)⟩
    have hlw : ys.length = ws.length := Paired.length hP
    have c2 : ws.length ≤ 120 := by omega
    refine ⟨_, rfl, _, _, rfl, rfl, _, rfl, ?_⟩
    refine ite2 (fun c3 => ?_) (fun c3 => ?_)
    · exact mko ((e3 (of_decide_eq_true c3) c2).at (Same.refl H))
    have c3 : 1 ≤ d := Int.not_lt.mp fun z => c3 (decide_eq_true z)
    have e4 := e4 c3 c1 c2
    have k := k c3 c1 c2
    refine ⟨_, rfl, _, _, rfl, .inl (SqL.of hS), _, rfl, by omega, by omega,
      for_upto (lo := 0) (L := ws.length) (by omega) (fun i σ H' => ∃ v3, σ = [some (.ref p), some (.int d), some (.ref sd), v3, none, none] ∧ H' = H ∧ fbadW d 1 ws = fbadW d (1 + (i : Nat)) (ws.drop i)) ⟨_, rfl, rfl, rfl⟩ ?_ ?_⟩
    · rintro i σ H' hi ⟨v3, rfl, rfl, hu⟩
      obtain ⟨c, hc⟩ : ∃ c, ws[i]? = some c := ⟨ws[i], List.getElem?_eq_getElem hi⟩
      obtain ⟨x, hx⟩ : ∃ x, ys[i]? = some x := ⟨ys[i]'(by omega), List.getElem?_eq_getElem _⟩
      obtain ⟨c', hc', hr⟩ := paired_get hP hx
      rw [hc] at hc'
      cases hc'
      rw [drop_get hc] at hu
      have step : fbadW d (1 + (i : Nat)) (c :: ws.drop (i + 1)) = if badW d c = true then (1 + ((i : Nat) : Int)) else fbadW d (1 + (i : Nat) + 1) (ws.drop (i + 1)) := rfl
      have next : (1 + ((i + 1 : Nat) : Int)) = 1 + (i : Nat) + 1 := by omega
      have e2' : (0 + (i : Int)) + 1 = 1 + (i : Int) := by omega
      have bad : badW d c = true → Rz E H' (cBG K) "row" (.int ((0 + (i : Int)) + 1)) := fun q => by
        rw [step, if_pos q] at hu
        rw [hu] at e4
        rw [e2']
        exact e4 (by omega)
      have good : badW d c = false → fbadW d 1 ws = fbadW d (1 + ((i + 1 : Nat) : Int)) (ws.drop (i + 1)) := fun q => by
        rw [step, if_neg (fun z => by rw [q] at z; cases z)] at hu
        rw [hu, next]
      have raise : badW d c = true → ∀ t, H' t = none → E (.ref (cBG K)) (some t) (upd H' t (.xd [(("row" : Str), V.int ((0 + (i : Int)) + 1))])) := fun q => (bad q).at (Same.refl _)
      refine ⟨_, rfl, _, rfl, sd, _, _, _, rfl, rfl, SqL.of hS, at_of (by omega) hx, hr.i0 ⟨_, _, rfl, rfl, _, rfl, ?_⟩⟩
      cases q1 : decide (c.1 < 1) with
      | true => exact ⟨_, rfl, _, _, rfl, rfl, mko (raise (by simp [badW, q1]))⟩
      | false =>
        refine ⟨_, rfl, _, rfl, sd, _, _, _, rfl, rfl, SqL.of hS, at_of (by omega) hx, hr.i1 ⟨_, rfl, _, rfl, sd, _, _, _, rfl, rfl, SqL.of hS, at_of (by omega) hx, hr.i0 ⟨_, _, rfl, rfl, _, rfl, ?_⟩⟩⟩
        cases q2 : decide (c.2 < c.1) with
        | true => exact ⟨_, rfl, _, _, rfl, rfl, mko (raise (by simp [badW, q2]))⟩
        | false =>
          refine ⟨_, rfl, _, rfl, sd, _, _, _, rfl, rfl, SqL.of hS, at_of (by omega) hx, hr.i1 ⟨_, rfl, _, _, rfl, rfl, _, rfl, ?_⟩⟩
          cases q3 : decide (d < c.2) with
          | true => exact ⟨_, rfl, _, _, rfl, rfl, mko (raise (by simp [badW, q3]))⟩
          | false => exact ⟨_, rfl, rfl, good (by simp [badW, q1, q2, q3])⟩
    · rintro σ H' ⟨v3, rfl, rfl, hu⟩
      rw [List.drop_length] at hu
      have k := k hu
      clear e1 e2 e3 e4 hu
      have nps : sd ≠ p := fun z => by rw [z, hp] at hS; cases hS
      refine ⟨_, rfl, _, rfl, p, _, dx, [], rfl, hp, cl_Garden T, na_Garden_days_number T, (by show 0 < 1000; decide), ?_⟩
      have b1 : But p H' (upd H' p (.ins (cG K) dx (putF "days_number" (.int d) []))) := (But.refl p H').upd
      have p1 : upd H' p (.ins (cG K) dx (putF "days_number" (.int d) [])) p = some (.ins (cG K) dx (putF "days_number" (.int d) [])) := upd_same
      generalize upd H' p (.ins (cG K) dx (putF "days_number" (.int d) [])) = H1 at b1 p1 ⊢
      have hS1 := b1 _ _ hS nps
      have hP1 : Paired (PairT H1) ys ws := Paired.mapP hP fun _ _ z => by
        obtain ⟨t, rfl, h⟩ := z
        exact ⟨t, rfl, b1 _ _ h fun z => by rw [z, hp] at h; cases h⟩
      refine ⟨_, rfl, sd, rfl, ⟨_, SqL.of hS1⟩, fun D hD => lc_acc (K := K) (a := sd) (xs := ys) hD (SqL.of hS1) (by omega) (fun j acc H2 => Paired (PairT H2) acc (ws.take j)) (fun _ _ => .nil) ?_ ?_⟩
      · rintro j x acc H2 N N0 hx s2 hacc hI hN hN0
        obtain ⟨c, hc, hr⟩ := paired_get hP1 hx
        refine (hr.same s2).un rfl ⟨rfl, ?_⟩
        refine ⟨_, rfl, _, rfl, (by show 2 ≤ sizeLine; decide), fun t ht => ?_⟩
        obtain ⟨s3, g3⟩ := new2 (.tup [V.int c.1, V.int c.2]) ht
        have tD : t ≠ D := fun z => by rw [z, hacc] at ht; cases ht
        refine hN _ _ s3 fun H5 b5 _ => ?_
        rw [take_get hc]
        refine paired_snoc (Paired.mapP hI fun _ _ z => ?_) ⟨t, rfl, b5 _ _ g3 tD⟩
        obtain ⟨u, rfl, h⟩ := z.same s3
        exact ⟨u, rfl, b5 _ _ h fun z => by rw [z, s3 _ _ hacc] at h; cases h⟩
      · rintro acc H2 s2 hacc hal hI
        rw [Paired.length hP1, List.take_length] at hI
        have p2 := s2 _ _ p1
        refine ⟨_, rfl, p, _, dx, _, rfl, p2, cl_Garden T, na_Garden_seed_list T, (by show 1 < 1000; decide), ?_⟩
        have pD : D ≠ p := fun z => by rw [z, p1] at hD; cases hD
        have hD0 : H' D = none := by
          cases q : H' D with
          | none => rfl
          | some o => rw [b1 _ _ q pD] at hD; cases hD
        have b2 : But p H' (upd H2 p (.ins (cG K) dx (putF "seed_list" (.ref D) (putF "days_number" (.int d) [])))) := (b1.trans (But.of s2)).upd
        refine k _ b2 ⟨dx, D, acc, hD0, ?_, by rw [upd_ne pD]; exact hacc, Paired.mapP hI fun _ _ z => ?_⟩
        · rw [upd_same]
          have e : ¬ (("days_number" : Str) = "seed_list") := by decide +kernel
          show some (HO.ins (cG K) dx (if ("days_number" : Str) = "seed_list" then _ else _)) = _
          rw [if_neg e]
          rfl
        · obtain ⟨u, rfl, h⟩ := z
          exact ⟨u, rfl, by rw [upd_ne fun z => by rw [z, p2] at h; cases h]; exact h⟩
end
end K05
end
section
set_option maxRecDepth 100000
set_option maxHeartbeats 4000000
namespace K05
open PySem PySem.Spec PyProof.Rows L2
/-- a window within the days -/
def VW (T : Int) (c : Int × Int) : Prop := 1 ≤ c.1 ∧ c.1 ≤ c.2 ∧ c.2 ≤ T
theorem fbadW_ok {T : Int} : ∀ (ws : List (Int × Int)) (k : Int), (∀ c ∈ ws, VW T c) → fbadW T k ws = 0
  | [], _, _ => rfl
  | c :: r, k, h => by
    unfold fbadW
    have hc := h c List.mem_cons_self
    unfold VW at hc
    rw [if_neg (by simp [badW]; omega)]
    exact fbadW_ok r (k + 1) fun d hd => h d (List.mem_cons_of_mem _ hd)
theorem fbadW_app {T : Int} {w : Int × Int} {r : List (Int × Int)} (hw : badW T w = true) : ∀ (cs : List (Int × Int)) (k : Int), (∀ c ∈ cs, VW T c) → fbadW T k (cs ++ w :: r) = k + cs.length
  | [], k, _ => by
    show fbadW T k (w :: r) = _
    unfold fbadW
    rw [if_pos hw]
    simp
  | c :: t, k, h => by
    show fbadW T k (c :: (t ++ w :: r)) = _
    unfold fbadW
    have hc := h c List.mem_cons_self
    unfold VW at hc
    rw [if_neg (by simp [badW]; omega), fbadW_app hw t (k + 1) fun d hd => h d (List.mem_cons_of_mem _ hd)]
    rw [List.length_cons]
    omega
/-- what making a garden of these may raise -/
structure GErr (K : PySem.W.Frag) (E : XK) (H : Hp) (d : Int) (ws : List (Int × Int)) : Prop where
  days : 24 < d → Rz E H (cTM K) "what" (.str "days")
  seeds : d ≤ 24 → 120 < ws.length → Rz E H (cTM K) "what" (.str "seeds")
  none : d < 1 → ws.length ≤ 120 → Rz E H (cBG K) "row" (.int 0)
  row : 1 ≤ d → d ≤ 24 → ws.length ≤ 120 → fbadW d 1 ws ≠ 0 → Rz E H (cBG K) "row" (.int (fbadW d 1 ws))
theorem Rz.up {E : XK} {H H1 : Hp} {C : Addr} {f : Str} {v : V} (r : Rz E H C f v) (e : Same H H1) : Rz E H1 C f v := fun d H' s hd => r d H' (e.trans s) hd
theorem GErr.up {K : PySem.W.Frag} {E : XK} {H H1 : Hp} {d : Int} {ws : List (Int × Int)} (g : GErr K E H d ws) (e : Same H H1) : GErr K E H1 d ws :=
  ⟨fun h => Rz.up (g.days h) e, fun h h' => Rz.up (g.seeds h h') e, fun h h' => Rz.up (g.none h h') e, fun h h' h2 h3 => Rz.up (g.row h h' h2 h3) e⟩
theorem GErr.ok {K : PySem.W.Frag} {E : XK} {H : Hp} {d : Int} {ws : List (Int × Int)} (h1 : 1 ≤ d) (h2 : d ≤ 24) (h3 : ws.length ≤ 120) (h4 : ∀ c ∈ ws, VW d c) : GErr K E H d ws :=
  ⟨fun h => by omega, fun _ h => by omega, fun h => by omega, fun _ _ _ h => absurd (fbadW_ok ws 1 h4) h⟩
/-- the making, from what is handed in -/
theorem made {K : PySem.W.Frag} {E : XK} {Q : VK} {H : Hp} {s : Addr} {ys : List V} {ws : List (Int × Int)} {d : Int} (hS : H s = some (.lst ys)) (hP : Paired (PairT H) ys ws) (hl : ys.length ≤ 1000) (g : GErr K E H d ws)
    (k : 1 ≤ d → d ≤ 24 → ws.length ≤ 120 → fbadW d 1 ws = 0 → ∀ x H', H x = none → Same H H' → GardenN K H H' x d ws → Q (.ref x) H') :
    ∀ x dx, H x = none → H dx = none → dx ≠ x → spGInit K (.ref x :: ([.int d, .ref s] ++ [])) (upd (upd H dx (.own x)) x (.ins (cG K) dx [])) (fun v H2 => v = .non ∧ Q (.ref x) H2) E := by
  intro x dx hx hdx hne
  have s1 : Same H (upd (upd H dx (.own x)) x (.ins (cG K) dx [])) := same_mut (same_new hdx) hx
  have g1 := g.up s1
  refine ⟨x, dx, d, s, ys, ws, rfl, upd_same, s1 _ _ hS, Paired.mapP hP fun _ _ z => z.same s1, hl, g1.days, g1.seeds, g1.none, g1.row, fun h1 h2 h3 h4 H' b hg => ⟨rfl, k h1 h2 h3 h4 x H' hx (fun c o hc => b c o (s1 c o hc) (ne_of_none hc hx)) (hg.dn s1)⟩⟩
/-- the making, with any way to go on -/
theorem made2 {K : PySem.W.Frag} {E : XK} {Q : Addr → Hp → Prop} {H : Hp} {s : Addr} {ys : List V} {ws : List (Int × Int)} {d : Int} (hS : H s = some (.lst ys)) (hP : Paired (PairT H) ys ws) (hl : ys.length ≤ 1000) (g : GErr K E H d ws)
    (k : 1 ≤ d → d ≤ 24 → ws.length ≤ 120 → fbadW d 1 ws = 0 → ∀ x H', H x = none → Same H H' → GardenN K H H' x d ws → Q x H') :
    ∀ x dx, H x = none → H dx = none → dx ≠ x → spGInit K (.ref x :: ([.int d, .ref s] ++ [])) (upd (upd H dx (.own x)) x (.ins (cG K) dx [])) (fun v H2 => v = .non ∧ Q x H2) E := by
  intro x dx
  have := made (Q := fun v H' => ∀ y, v = .ref y → Q y H') hS hP hl g (fun h1 h2 h3 h4 x H' hx s hg y e => by cases e; exact k h1 h2 h3 h4 x H' hx s hg) x dx
  intro h1 h2 h3
  have r := this h1 h2 h3
  obtain ⟨p, dx', d', s', ys', ws', e1, e2, e3, e4, e5, e6, e7, e8, e9, e10⟩ := r
  exact ⟨p, dx', d', s', ys', ws', e1, e2, e3, e4, e5, e6, e7, e8, e9, fun a b c d H' b' g' => ⟨(e10 a b c d H' b' g').1, (e10 a b c d H' b' g').2 x rfl⟩⟩
end K05
end
section
set_option maxRecDepth 100000
set_option maxHeartbeats 4000000
namespace K05
open PySem PySem.Spec PyProof.Rows L2
section
variable {P : Program} {w : World} {K : PySem.W.Frag} {mg : Str → Option Value} {base : Heap}
def spWin : Sp := fun vs H Q _ => ∃ (sa : Addr) (d many : Int), vs = [.ref sa, .int d, .int many] ∧ 1 ≤ d ∧ d ≤ 24 ∧ 0 ≤ many ∧ many ≤ 200 ∧ Stk H sa ∧
  ∀ l (xs : List V) (ws : List (Int × Int)) H', H l = none → But sa H H' → Stk H' sa → H' l = some (.lst xs) → Paired (PairT H') xs ws → ws.length = many.toNat → (∀ c ∈ ws, VW d c) → Q (.ref l) H'
theorem ok__law_b_windows (T : Txt w K mg) : Ok P w K mg base CX0 2 "_law_b_windows" ["stock", "days", "many"] spWin := by
  refine Ok.def0 (f__law_b_windows T) (fun _ _ _ _ _ _ us hl => match us, hl with | [_, _, _], _ => rfl) sc__law_b_windows (fun vs H Q E h => ?_) (fun f cdv A outer s H vs Q E hr h => ?_)
  · obtain ⟨sa, d, many, rfl, _⟩ := h
    rfl
  · obtain ⟨sa, d, many, rfl, h1, h2, hm0, hm, hs, k⟩ := h
    refine ⟨_, (pss_cons (ps_set (i := 3) sc__law_b_windows.nd rfl (by first | exact Or.inl rfl | exact Or.inr rfl) (pe_lst pa_nil))
      (pss_cons (ps_for PassesOwn.never rfl (pi_range1 rfl (n_range T) (pa_cons (pv 2) pa_nil)) (pg_name (i := 4) sc__law_b_windows.nd rfl (by first | exact Or.inl rfl | exact Or.inr rfl))
        (pss_cons (ps_set (i := 5) sc__law_b_windows.nd rfl (by first | exact Or.inl rfl | exact Or.inr rfl) (pe_ok (ok__law_draw T) (hr.mono (by first | decide | omega)) rfl pass0 (pa_cons (pv 0) (pa_cons pe_int pa_nil))))
      (pss_cons (ps_set (i := 6) sc__law_b_windows.nd rfl (by first | exact Or.inl rfl | exact Or.inr rfl) (pe_op op_add pe_int (pe_ok (ok__law_draw T) (hr.mono (by first | decide | omega)) rfl pass0 (pa_cons (pv 0) (pa_cons (pv 1) pa_nil)))))
      (pss_cons (ps_set (i := 7) sc__law_b_windows.nd rfl (by first | exact Or.inl rfl | exact Or.inr rfl) (pe_callB (call_min2 rfl) rfl (n_min T) (by decide +kernel) (pa_cons (pv 1) (pa_cons (pe_op op_add (pv 6) (pe_ok (ok__law_draw T) (hr.mono (by first | decide | omega)) rfl pass0 (pa_cons (pv 0) (pa_cons pe_int pa_nil)))) pa_nil))))
      (pss_cons (ps_if (PW.pt (pw_and (pt_cmpR op_eq (pv 5) pe_int (nomark _)) (pw_and1 (pt_cmpR op_gt (pe_callB (len_seqK (K := K) rfl) rfl (n_len T) (by decide +kernel) (pa_cons (pv 3) pa_nil)) pe_int (nomark _))))) (pss_one (ps_asg (pe_ix (ix_listK (K := K) rfl) (pv 3) (pe_ok (ok__law_draw T) (hr.mono (by first | decide | omega)) rfl pass0 (pa_cons (pv 0) (pa_cons (pe_callB (len_seqK (K := K) rfl) rfl (n_len T) (by decide +kernel) (pa_cons (pv 3) pa_nil)) pa_nil))) (fun _ _ => rfl)) (pg_tupK (K := K) (n := 2) rfl rfl (pgs_cons (pg_name (i := 6) sc__law_b_windows.nd rfl (by first | exact Or.inl rfl | exact Or.inr rfl)) (pgs_cons (pg_name (i := 7) sc__law_b_windows.nd rfl (by first | exact Or.inl rfl | exact Or.inr rfl)) pgs_nil))))) (pss_one (ps_if (pt_cmpR op_eq (pv 5) pe_int (nomark _)) (pss_one (ps_set (i := 7) sc__law_b_windows.nd rfl (by first | exact Or.inl rfl | exact Or.inr rfl) (pv 1))) (pss_one (ps_if (pt_cmpR op_eq (pv 5) pe_int (nomark _)) (pss_one (ps_set (i := 7) sc__law_b_windows.nd rfl (by first | exact Or.inl rfl | exact Or.inr rfl) (pv 6))) pss_nil)))))
      (pss_one (ps_expr (pe_bm PySem.F.plainAttrs_list PySem.F.slot_list_append PySem.F.type_list_append mt_append (pv 3) (pa_cons (pe_tup (pa_cons (pv 6) (pa_cons (pv 7) pa_nil))) pa_nil)))))))))
      (pss_one (ps_ret (pv 3))))), ?_⟩
    refine ⟨(by show 0 ≤ sizeLine; decide), fun l hl => ?_⟩
    obtain ⟨s1, g1⟩ := new2 (.lst []) hl
    have lsa : l ≠ sa := fun z => hs.ne (z ▸ hl)
    refine ⟨_, rfl, _, rfl, by omega, by omega, for_upto (lo := 0) (L := many.toNat) rfl (fun i σ H' => ∃ v4 v5 v6 v7 xs ws, σ = [some (.ref sa), some (.int d), some (.int many), some (.ref l), v4, v5, v6, v7] ∧ But sa H H' ∧ Stk H' sa ∧ H' l = some (.lst xs) ∧ Paired (PairT H') xs ws ∧ ws.length = i ∧ ∀ c ∈ ws, VW d c) ⟨_, _, _, _, [], [], rfl, But.of s1, hs.same s1, g1, .nil, rfl, (fun c hc => by cases hc)⟩ ?_ ?_⟩
    · rintro i σ H' hi ⟨v4, v5, v6, v7, xs, ws, rfl, b, hst, hL, hP, hwl, hV⟩
      have hxl : xs.length = i := by rw [Paired.length hP, hwl]
      refine ⟨_, rfl, sa, 5, rfl, by decide, by decide, hst, fun kd x y z r0 r1 => ?_⟩
      refine ⟨_, rfl, _, rfl, sa, d, rfl, by omega, by omega, stk_upd, fun fr x1 y1 z1 r2 r3 => ⟨_, _, rfl, rfl, ?_⟩⟩
      refine ⟨_, rfl, _, rfl, _, rfl, sa, 4, rfl, by decide, by decide, stk_upd, fun dr x2 y2 z2 r4 r5 => ⟨_, _, rfl, rfl, _, _, rfl, ?_⟩⟩
      rw [min2]
      have b3 : But sa H' (upd (upd (upd H' sa (stk x y z)) sa (stk x1 y1 z1)) sa (stk x2 y2 z2)) := (But.refl sa H').upd.upd.upd
      have hst3 : Stk (upd (upd (upd H' sa (stk x y z)) sa (stk x1 y1 z1)) sa (stk x2 y2 z2)) sa := stk_upd
      generalize upd (upd (upd H' sa (stk x y z)) sa (stk x1 y1 z1)) sa (stk x2 y2 z2) = H3 at b3 hst3 ⊢
      refine nxE (seq_via (fun σ' H4 => ∃ f' l', σ' = [some (.ref sa), some (.int d), some (.int many), some (.ref l), some (.int (0 + (i : Int))), some (.int kd), some (.int f'), some (.int l')] ∧ VW d (f', l') ∧ But sa H' H4 ∧ Stk H4 sa) (fun U hU => ?_) ?_)
      · have hL3 := b3 _ _ hL lsa
        refine ⟨_, rfl, rfl, _, rfl, ?_⟩
        refine ite2 (fun c => ?_) (fun c => ?_)
        · refine ⟨_, rfl, _, _, rfl, .inl (SqL.of hL3), _, _, rfl, rfl, _, rfl, ?_⟩
          refine ite2 (fun c2 => ?_) (fun c2 => ?_)
          · have c2 := of_decide_eq_true c2
            refine ⟨_, rfl, _, rfl, _, rfl, _, _, rfl, .inl (SqL.of hL3), sa, (xs.length : Int), rfl, by omega, by omega, hst3, fun rj x3 y3 z3 r6 r7 => ?_⟩
            have b4 : But sa H' (upd H3 sa (stk x3 y3 z3)) := b3.upd
            obtain ⟨v, hv⟩ : ∃ v, xs[rj.toNat]? = some v := ⟨xs[rj.toNat]'(by omega), List.getElem?_eq_getElem (by omega)⟩
            obtain ⟨c', hc', hr⟩ := paired_get hP hv
            have hr4 := hr.bx hst (Bx.of_but b4)
            refine ⟨l, xs, rj, v, rfl, rfl, SqL.of (b4 _ _ hL lsa), atI_int r6 hv, hr4.un rfl ?_⟩
            exact hU _ _ ⟨c'.1, c'.2, rfl, hV _ (List.mem_of_getElem? hc'), b4, stk_upd⟩
          · refine ⟨_, rfl, rfl, _, rfl, ite2 (fun c3 => ?_) (fun c3 => ⟨_, rfl, rfl, _, rfl, ite2 (fun c4 => ?_) (fun c4 => ?_)⟩)⟩
            · exact ⟨_, rfl, hU _ _ ⟨_, _, rfl, by unfold VW; refine ⟨?_, ?_, ?_⟩ <;> simp <;> omega, b3, hst3⟩⟩
            · exact ⟨_, rfl, hU _ _ ⟨_, _, rfl, by unfold VW; refine ⟨?_, ?_, ?_⟩ <;> simp <;> omega, b3, hst3⟩⟩
            · exact hU _ _ ⟨_, _, rfl, by unfold VW; refine ⟨?_, ?_, ?_⟩ <;> simp <;> omega, b3, hst3⟩
        · refine ⟨_, rfl, rfl, _, rfl, ite2 (fun c3 => ?_) (fun c3 => ⟨_, rfl, rfl, _, rfl, ite2 (fun c4 => ?_) (fun c4 => ?_)⟩)⟩
          · exact ⟨_, rfl, hU _ _ ⟨_, _, rfl, by unfold VW; refine ⟨?_, ?_, ?_⟩ <;> simp <;> omega, b3, hst3⟩⟩
          · exact ⟨_, rfl, hU _ _ ⟨_, _, rfl, by unfold VW; refine ⟨?_, ?_, ?_⟩ <;> simp <;> omega, b3, hst3⟩⟩
          · exact hU _ _ ⟨_, _, rfl, by unfold VW; refine ⟨?_, ?_, ?_⟩ <;> simp <;> omega, b3, hst3⟩
      · rintro σ4 H4 ⟨f', l', rfl, hvw, b4, hst4⟩
        have hL4 := b4 _ _ hL lsa
        refine ⟨_, rfl, .inl ⟨rfl, _, SqL.of hL4⟩, _, rfl, _, rfl, (by show 2 ≤ sizeLine; decide), fun p hp => ?_⟩
        obtain ⟨s5, g5⟩ := new2 (.tup [.int f', .int l']) hp
        have hL5 := s5 _ _ hL4
        refine ⟨l, xs, _, rfl, rfl, hL5, line_lt (by omega), ?_⟩
        refine ⟨_, _, _, _, xs ++ [V.ref p], ws ++ [(f', l')], rfl, (b.trans (b4.trans (But.of s5))).mut hl, (hst4.same s5).but lsa.symm, upd_same, ?_, by rw [List.length_append, hwl]; rfl, ?_⟩
        · exact paired_snoc (Paired.mapP hP fun _ _ z => ((z.bx hst (Bx.of_but b4)).same s5).mut hL5) (PairT.mut hL5 ⟨p, rfl, g5⟩)
        · intro c hc
          rcases List.mem_append.mp hc with hc | hc
          · exact hV c hc
          · rw [List.mem_singleton.mp hc]; exact hvw
    · rintro σ H' ⟨v4, v5, v6, v7, xs, ws, rfl, b, hst, hL, hP, hwl, hV⟩
      exact ⟨_, rfl, k l xs ws H' hl b hst hL hP hwl hV⟩
end
end K05
end
section
set_option maxRecDepth 100000
set_option maxHeartbeats 4000000
namespace K05
open PySem PySem.Spec PyProof.Rows L2
section
variable {P : Program} {w : World} {K : PySem.W.Frag} {mg : Str → Option Value} {base : Heap}
theorem mt_gen {k : Nat} {sp0 : Sp} {R : Hp → V → V → Prop} (T : Txt w K mg) (ok__law_matches : Txt w K mg → Ok P w K mg base CX0 k "_law_matches" ["answer", "due"] sp0) (hR : ∀ H v u Q, R H v u → (∀ H', Same H H' → Q (.bl true) H') → sp0 [v, u] H Q E0)
    (hS : ∀ H H' v u, Same H H' → R H v u → R H' v u) : Ok P w K mg base CX0 (k + 1) "_law_matches" ["answer", "due"] (spMt fun H v u => Leaf v u ∨ Comp R H v u) := by
  refine Ok.def0 (f__law_matches T) (fun _ _ _ _ _ _ us hl => match us, hl with | [_, _], _ => rfl) sc__law_matches (fun vs H Q E h => ?_) (fun f cdv A outer s H vs Q E hr h => ?_)
  · obtain ⟨v, u, rfl, _⟩ := h
    rfl
  · obtain ⟨v, u, rfl, h, q⟩ := h
    refine ⟨_, (pss_cons (ps_if (PW.pt (pw_or (pt_cmpR op_isN (pv 1) pe_non (nomark _)) (pw_or1 (pt_cmpR op_isN (pv 0) pe_non (nomark _))))) (pss_one (ps_ret (pe_and (pe_cmpR op_isN (pv 1) pe_non (nomark _)) (pe_one (pe_cmpR op_isN (pv 0) pe_non (nomark _)))))) pss_nil)
      (pss_cons (ps_if (PW.pt (pw_or (pt_val (pe_callB (isiK (K := K) rfl) rfl (n_isinstance T) (by decide +kernel) (pa_cons (pv 1) (pa_cons (pe_bltn (v := .ty "bool") (u := .type "bool") rfl (n_bool T) (by decide +kernel) rfl) pa_nil)))) (pw_or1 (pt_val (pe_callB (isiK (K := K) rfl) rfl (n_isinstance T) (by decide +kernel) (pa_cons (pv 0) (pa_cons (pe_bltn (v := .ty "bool") (u := .type "bool") rfl (n_bool T) (by decide +kernel) rfl) pa_nil))))))) (pss_one (ps_ret (pe_and (pe_callB (isiK (K := K) rfl) rfl (n_isinstance T) (by decide +kernel) (pa_cons (pv 1) (pa_cons (pe_bltn (v := .ty "bool") (u := .type "bool") rfl (n_bool T) (by decide +kernel) rfl) pa_nil))) (pe_and (pe_callB (isiK (K := K) rfl) rfl (n_isinstance T) (by decide +kernel) (pa_cons (pv 0) (pa_cons (pe_bltn (v := .ty "bool") (u := .type "bool") rfl (n_bool T) (by decide +kernel) rfl) pa_nil))) (pe_one (pe_cmpR op_eq (pv 0) (pv 1) (nomark _))))))) pss_nil)
      (pss_cons (ps_if (pt_val (pe_callB (isiK (K := K) rfl) rfl (n_isinstance T) (by decide +kernel) (pa_cons (pv 1) (pa_cons (pe_bltn (v := .ty "int") (u := .type "int") rfl (n_int T) (by decide +kernel) rfl) pa_nil)))) (pss_one (ps_ret (pe_and (pe_callB (isiK (K := K) rfl) rfl (n_isinstance T) (by decide +kernel) (pa_cons (pv 0) (pa_cons (pe_bltn (v := .ty "int") (u := .type "int") rfl (n_int T) (by decide +kernel) rfl) pa_nil))) (pe_one (pe_cmpR op_eq (pv 0) (pv 1) (nomark _)))))) pss_nil)
      (pss_cons (ps_if (pt_val (pe_callB (isiK (K := K) rfl) rfl (n_isinstance T) (by decide +kernel) (pa_cons (pv 1) (pa_cons (pe_bltn (v := .ty "str") (u := .type "str") rfl (n_str T) (by decide +kernel) rfl) pa_nil)))) (pss_one (ps_ret (pe_and (pe_callB (isiK (K := K) rfl) rfl (n_isinstance T) (by decide +kernel) (pa_cons (pv 0) (pa_cons (pe_bltn (v := .ty "str") (u := .type "str") rfl (n_str T) (by decide +kernel) rfl) pa_nil))) (pe_one (pe_cmpR op_eq (pv 0) (pv 1) (nomark _)))))) pss_nil)
      (pss_cons (ps_if (pt_val (pe_callB (isiK (K := K) rfl) rfl (n_isinstance T) (by decide +kernel) (pa_cons (pv 1) (pa_cons (pe_bltn (v := .ty "dict") (u := .type "dict") rfl (n_dict T) (by decide +kernel) rfl) pa_nil)))) (pss_cons (ps_if (PW.pt (pw_or (pt_not (pt_val (pe_callB (isiK (K := K) rfl) rfl (n_isinstance T) (by decide +kernel) (pa_cons (pv 0) (pa_cons (pe_bltn (v := .ty "dict") (u := .type "dict") rfl (n_dict T) (by decide +kernel) rfl) pa_nil))))) (pw_or1 (pt_cmpR op_ne (pe_callB (len_seqK (K := K) rfl) rfl (n_len T) (by decide +kernel) (pa_cons (pv 0) pa_nil)) (pe_callB (len_seqK (K := K) rfl) rfl (n_len T) (by decide +kernel) (pa_cons (pv 1) pa_nil)) (nomark _))))) (pss_one (ps_ret pe_bl)) pss_nil)
      (pss_cons (ps_for PassesOwn.never rfl (pi_listK (K := K) rfl (pe_callTy (list_ofK (K := K) rfl) rfl (n_list T) (by decide +kernel) (pa_cons (pv 1) pa_nil))) (pg_name (i := 2) sc__law_matches.nd rfl (by first | exact Or.inl rfl | exact Or.inr rfl))
        (pss_one (ps_if (PW.pt (pw_or (pt_cmpR op_notIn_seq (pv 2) (pv 0) (by with_unfolding_all rfl)) (pw_or1 (pt_not (pt_val (pe_ok (ok__law_matches T) (hr.mono (by first | decide | omega)) rfl pass0 (pa_cons (pe_ix (ix_seqK (K := K) rfl) (pv 0) (pv 2) (fun _ _ => rfl)) (pa_cons (pe_ix (ix_seqK (K := K) rfl) (pv 1) (pv 2) (fun _ _ => rfl)) pa_nil)))))))) (pss_one (ps_ret pe_bl)) pss_nil)))
      (pss_one (ps_ret pe_bl)))) pss_nil)
      (pss_cons (ps_if (PW.pt (pw_and (pt_val (pe_callB (isiK (K := K) rfl) rfl (n_isinstance T) (by decide +kernel) (pa_cons (pv 1) (pa_cons (pe_bltn (v := .ty "tuple") (u := .type "tuple") rfl (n_tuple T) (by decide +kernel) rfl) pa_nil)))) (pw_and1 (pt_not (pt_val (pe_callB (isiK (K := K) rfl) rfl (n_isinstance T) (by decide +kernel) (pa_cons (pv 0) (pa_cons (pe_bltn (v := .ty "tuple") (u := .type "tuple") rfl (n_tuple T) (by decide +kernel) rfl) pa_nil)))))))) (pss_one (ps_ret pe_bl)) pss_nil)
      (pss_cons (ps_if (PW.pt (pw_and (pt_val (pe_callB (isiK (K := K) rfl) rfl (n_isinstance T) (by decide +kernel) (pa_cons (pv 1) (pa_cons (pe_bltn (v := .ty "list") (u := .type "list") rfl (n_list T) (by decide +kernel) rfl) pa_nil)))) (pw_and1 (pt_not (pt_val (pe_callB (isiK (K := K) rfl) rfl (n_isinstance T) (by decide +kernel) (pa_cons (pv 0) (pa_cons (pe_bltn (v := .ty "list") (u := .type "list") rfl (n_list T) (by decide +kernel) rfl) pa_nil)))))))) (pss_one (ps_ret pe_bl)) pss_nil)
      (pss_cons (ps_if (pt_cmpR op_ne (pe_callB (len_seqK (K := K) rfl) rfl (n_len T) (by decide +kernel) (pa_cons (pv 0) pa_nil)) (pe_callB (len_seqK (K := K) rfl) rfl (n_len T) (by decide +kernel) (pa_cons (pv 1) pa_nil)) (nomark _)) (pss_one (ps_ret pe_bl)) pss_nil)
      (pss_cons (ps_for PassesOwn.never rfl (pi_range1 rfl (n_range T) (pa_cons (pe_callB (len_seqK (K := K) rfl) rfl (n_len T) (by decide +kernel) (pa_cons (pv 1) pa_nil)) pa_nil)) (pg_name (i := 3) sc__law_matches.nd rfl (by first | exact Or.inl rfl | exact Or.inr rfl))
        (pss_one (ps_if (pt_not (pt_val (pe_ok (ok__law_matches T) (hr.mono (by first | decide | omega)) rfl pass0 (pa_cons (pe_ix (ix_seqK (K := K) rfl) (pv 0) (pv 3) (fun _ _ => rfl)) (pa_cons (pe_ix (ix_seqK (K := K) rfl) (pv 1) (pv 3) (fun _ _ => rfl)) pa_nil))))) (pss_one (ps_ret pe_bl)) pss_nil)))
      (pss_one (ps_ret pe_bl))))))))))), ?_⟩
    rcases h with h | h
    · rcases h with ⟨n, rfl, rfl⟩ | ⟨z, rfl, rfl⟩
      · refine ⟨_, rfl, rfl, _, rfl, iteF ⟨_, rfl, rfl, _, rfl, iteF ?_⟩⟩
        refine ⟨_, rfl, ⟨_, _, _, _, _, rfl, .ty _, tx_int _, k_ib, _, rfl, iteF ⟨_, rfl, ⟨_, _, _, _, _, rfl, .ty _, tx_int _, k_ib, _, rfl, iteF ?_⟩⟩⟩⟩
        refine ⟨_, rfl, ⟨_, _, _, _, _, rfl, .ty _, tx_int _, k_ii, _, rfl, iteT ⟨_, rfl, ⟨_, _, _, _, _, rfl, .ty _, tx_int _, k_ii, _, rfl, iteT ⟨_, rfl, _, rfl, rfl, ?_⟩⟩⟩⟩⟩
        rw [decide_eq_true rfl]
        exact q _ (Same.refl _)
      · refine ⟨_, rfl, rfl, _, rfl, iteF ⟨_, rfl, rfl, _, rfl, iteF ?_⟩⟩
        refine ⟨_, rfl, ⟨_, _, _, _, _, rfl, .ty _, tx_str _, k_sb, _, rfl, iteF ⟨_, rfl, ⟨_, _, _, _, _, rfl, .ty _, tx_str _, k_sb, _, rfl, iteF ?_⟩⟩⟩⟩
        refine ⟨_, rfl, ⟨_, _, _, _, _, rfl, .ty _, tx_str _, k_si, _, rfl, iteF ?_⟩⟩
        refine ⟨_, rfl, ⟨_, _, _, _, _, rfl, .ty _, tx_str _, k_ss, _, rfl, iteT ⟨_, rfl, ⟨_, _, _, _, _, rfl, .ty _, tx_str _, k_ss, _, rfl, iteT ⟨_, rfl, _, rfl, rfl, ?_⟩⟩⟩⟩⟩
        rw [decide_eq_true rfl]
        exact q _ (Same.refl _)
    · obtain ⟨a, b, xs, ys, rfl, rfl, h, hl, hz, hr⟩ := h
      refine ⟨_, rfl, rfl, _, rfl, iteF ⟨_, rfl, rfl, _, rfl, iteF ?_⟩⟩
      rcases h with ⟨ha, hb⟩ | ⟨ha, hb⟩
      · refine ⟨_, rfl, ⟨_, _, _, _, _, rfl, .ty _, tx_lst hb, k_lb, _, rfl, iteF ⟨_, rfl, ⟨_, _, _, _, _, rfl, .ty _, tx_lst ha, k_lb, _, rfl, iteF ?_⟩⟩⟩⟩
        refine ⟨_, rfl, ⟨_, _, _, _, _, rfl, .ty _, tx_lst hb, k_li, _, rfl, iteF ?_⟩⟩
        refine ⟨_, rfl, ⟨_, _, _, _, _, rfl, .ty _, tx_lst hb, k_ls, _, rfl, iteF ?_⟩⟩
        refine ⟨_, rfl, ⟨_, _, _, _, _, rfl, .ty _, tx_lst hb, k_ld, _, rfl, iteF ?_⟩⟩
        refine ⟨_, rfl, ⟨_, _, _, _, _, rfl, .ty _, tx_lst hb, k_lt, _, rfl, iteF ?_⟩⟩
        refine ⟨_, rfl, ⟨_, _, _, _, _, rfl, .ty _, tx_lst hb, k_ll, _, rfl, iteT ⟨_, rfl, ⟨_, _, _, _, _, rfl, .ty _, tx_lst ha, k_ll, _, rfl, iteF ?_⟩⟩⟩⟩
        refine ⟨_, rfl, _, _, rfl, .inl (SqL.of ha), _, rfl, _, _, rfl, .inl (SqL.of hb), rfl, _, rfl, ?_⟩
        rw [hl, decide_eq_true rfl]
        refine iteF ⟨_, rfl, _, _, rfl, .inl (SqL.of hb), _, rfl, by omega, by omega, for_upto (lo := 0) (L := ys.length) (by omega) (fun i σ H' => ∃ v3, σ = [some (.ref a), some (.ref b), none, v3] ∧ Same H H') ⟨none, rfl, Same.refl H⟩ ?_ ?_⟩
        · rintro i σ H' hi ⟨v3, rfl, e⟩
          obtain ⟨x, hx⟩ : ∃ x, xs[i]? = some x := ⟨xs[i]'(by omega), List.getElem?_eq_getElem _⟩
          obtain ⟨y, hy⟩ : ∃ y, ys[i]? = some y := ⟨ys[i], List.getElem?_eq_getElem _⟩
          refine ⟨_, rfl, _, rfl, .inl ⟨a, _, _, _, rfl, rfl, e.seq (SqL.of ha), at_of (by omega) hx, _, rfl, _, rfl, .inl ⟨b, _, _, _, rfl, rfl, e.seq (SqL.of hb), at_of (by omega) hy, ?_⟩⟩⟩
          exact hR _ _ _ _ (hS _ _ _ _ e (hr i x y hx hy)) fun H2 s2 => ⟨_, rfl, _, rfl, e.trans s2⟩
        · rintro σ H' ⟨v3, rfl, e⟩
          exact q _ e
      · refine ⟨_, rfl, ⟨_, _, _, _, _, rfl, .ty _, tx_tup hb, k_tb, _, rfl, iteF ⟨_, rfl, ⟨_, _, _, _, _, rfl, .ty _, tx_tup ha, k_tb, _, rfl, iteF ?_⟩⟩⟩⟩
        refine ⟨_, rfl, ⟨_, _, _, _, _, rfl, .ty _, tx_tup hb, k_ti, _, rfl, iteF ?_⟩⟩
        refine ⟨_, rfl, ⟨_, _, _, _, _, rfl, .ty _, tx_tup hb, k_ts, _, rfl, iteF ?_⟩⟩
        refine ⟨_, rfl, ⟨_, _, _, _, _, rfl, .ty _, tx_tup hb, k_td, _, rfl, iteF ?_⟩⟩
        refine ⟨_, rfl, ⟨_, _, _, _, _, rfl, .ty _, tx_tup hb, k_tt, _, rfl, iteT ⟨_, rfl, ⟨_, _, _, _, _, rfl, .ty _, tx_tup ha, k_tt, _, rfl, iteF ?_⟩⟩⟩⟩
        refine ⟨_, rfl, ⟨_, _, _, _, _, rfl, .ty _, tx_tup hb, k_tl, _, rfl, iteF ?_⟩⟩
        refine ⟨_, rfl, _, _, rfl, .inr (SqT.of ha), _, rfl, _, _, rfl, .inr (SqT.of hb), rfl, _, rfl, ?_⟩
        rw [hl, decide_eq_true rfl]
        refine iteF ⟨_, rfl, _, _, rfl, .inr (SqT.of hb), _, rfl, by omega, by omega, for_upto (lo := 0) (L := ys.length) (by omega) (fun i σ H' => ∃ v3, σ = [some (.ref a), some (.ref b), none, v3] ∧ Same H H') ⟨none, rfl, Same.refl H⟩ ?_ ?_⟩
        · rintro i σ H' hi ⟨v3, rfl, e⟩
          obtain ⟨x, hx⟩ : ∃ x, xs[i]? = some x := ⟨xs[i]'(by omega), List.getElem?_eq_getElem _⟩
          obtain ⟨y, hy⟩ : ∃ y, ys[i]? = some y := ⟨ys[i], List.getElem?_eq_getElem _⟩
          refine ⟨_, rfl, _, rfl, .inr (.inl ⟨a, _, _, _, rfl, rfl, e.tup (SqT.of ha), at_of (by omega) hx, _, rfl, _, rfl, .inr (.inl ⟨b, _, _, _, rfl, rfl, e.tup (SqT.of hb), at_of (by omega) hy, ?_⟩)⟩)⟩
          exact hR _ _ _ _ (hS _ _ _ _ e (hr i x y hx hy)) fun H2 s2 => ⟨_, rfl, _, rfl, e.trans s2⟩
        · rintro σ H' ⟨v3, rfl, e⟩
          exact q _ e
theorem ok_mt0 (T : Txt w K mg) : Ok P w K mg base CX0 1 "_law_matches" ["answer", "due"] (spMt (Mt 0)) :=
  (mt_gen (k := 0) (sp0 := fun _ _ _ _ => False) (R := fun _ _ _ => False) T (fun T => Ok.never (f__law_matches T) (fun _ _ _ _ _ _ us hl => match us, hl with | [_, _], _ => rfl)) (fun _ _ _ _ h _ => h.elim) (fun _ _ _ _ _ h => h)).imp fun vs H Q E ⟨v, u, e, h, q⟩ => ⟨v, u, e, .inl h, q⟩
theorem ok_mt1 (T : Txt w K mg) : Ok P w K mg base CX0 2 "_law_matches" ["answer", "due"] (spMt (Mt 1)) :=
  mt_gen (k := 1) T (fun T => ok_mt0 T) (fun _ v u _ h q => ⟨v, u, rfl, h, q⟩) (fun _ _ _ _ e h => h.same (k := 0) e)
theorem ok_mt2 (T : Txt w K mg) : Ok P w K mg base CX0 3 "_law_matches" ["answer", "due"] (spMt (Mt 2)) :=
  mt_gen (k := 2) T (fun T => ok_mt1 T) (fun _ v u _ h q => ⟨v, u, rfl, h, q⟩) (fun _ _ _ _ e h => Mt.same (k := 1) e h)
end
end K05
end
section
set_option maxRecDepth 100000
set_option maxHeartbeats 4000000
namespace L2
open PySem PySem.Spec PyProof.Rows
/-! ### lists of couples compared -/
def dP (c : Int × Int) : PyData := .tuple [.int c.1, .int c.2]
theorem dp_pair {K : PySem.W.Frag} {H : Hp} {x : V} {c : Int × Int} (h : PairT H x c) : Dp K H x (dP c) := by
  obtain ⟨t, rfl, h⟩ := h
  exact .tup (SqT.of h) (.cons (.int _) (.cons (.int _) .nil))
theorem dp_pairall {K : PySem.W.Frag} {H : Hp} {xs : List V} {ws : List (Int × Int)} (h : Paired (PairT H) xs ws) : DpAll K H xs (ws.map dP) := by
  induction h with
  | nil => exact .nil
  | cons a _ ih => exact .cons (dp_pair a) ih
theorem dp_pairs {K : PySem.W.Frag} {H : Hp} {a : Addr} {xs : List V} {ws : List (Int × Int)} (ha : H a = some (.lst xs)) (h : Paired (PairT H) xs ws) : Dp K H (.ref a) (.list (ws.map dP)) := .lst (SqL.of ha) (dp_pairall h)
theorem lay_pairall : ∀ ws : List (Int × Int), PyData.canLayAll0 (ws.map dP) = true
  | [] => by rw [List.map_nil]; unfold PyData.canLayAll0; rfl
  | c :: r => by
    rw [List.map_cons]
    unfold PyData.canLayAll0
    rw [lay_pairall r]
    unfold dP PyData.canLay0 PyData.canLayAll0 PyData.canLay0 PyData.canLayAll0 PyData.canLay0 PyData.canLayAll0
    rfl
theorem lay_pairs (ws : List (Int × Int)) : (PyData.list (ws.map dP)).canLay0 = true := by
  unfold PyData.canLay0
  exact lay_pairall ws
theorem dep_pairall : ∀ ws : List (Int × Int), PyData.depthAll (ws.map dP) ≤ 2
  | [] => by rw [List.map_nil]; unfold PyData.depthAll; exact Nat.zero_le _
  | c :: r => by
    rw [List.map_cons]
    unfold PyData.depthAll
    have h := dep_pairall r
    have e : (dP c).depth ≤ 2 := by
      unfold dP PyData.depth PyData.depthAll PyData.depth PyData.depthAll PyData.depth PyData.depthAll
      decide
    omega
theorem shaped_pairs (ws : List (Int × Int)) : SeqAt.shaped (PyData.list (ws.map dP)) = true := by
  unfold SeqAt.shaped
  rw [lay_pairs]
  have h := dep_pairall ws
  have e : (PyData.list (ws.map dP)).depth ≤ 64 := by
    unfold PyData.depth
    omega
  rw [decide_eq_true e]
  rfl
theorem ne_pairs {K : PySem.W.Frag} {H : Hp} {a b : Addr} {xs ys : List V} {ws : List (Int × Int)} {Q : VK} (ha : H a = some (.lst xs)) (hb : H b = some (.lst ys)) (h1 : Paired (PairT H) xs ws) (h2 : Paired (PairT H) ys ws) (q : Q (.bl false) H) : rNeD K (.ref a) (.ref b) H Q := by
  refine ⟨_, _, dp_pairs ha h1, dp_pairs hb h2, shaped_pairs ws, shaped_pairs ws, ?_⟩
  rw [SeqAt.eqv_refl _ (lay_pairs ws)]
  exact q
end L2
end
section
set_option maxRecDepth 100000
set_option maxHeartbeats 4000000
/-! the end of a row whose law asks that no repr is under way (after the end with tables) -/
namespace LamX
open PySem PySem.Spec PyProof.Rows L2
/-! ### the first state: nothing is tracked but the empty tables and, where it is not in the written part, the script -/
abbrev tabO : Obj := { cls := .none, data := .fields #[] }
abbrev scrO (us : List Value) : Obj := { cls := .type "list", data := .seq us.toArray }
structure First (K : PySem.W.Frag) (h : Heap) (T : List Addr) (a : Addr) (us : List Value) (ns : List Int) (H : Hp) : Prop where
  tab : ∀ b ∈ T, H b = some (.tbl #[])
  only : ∀ b u, H b = some u → (b ∈ T ∧ u = .tbl #[]) ∨ (b = a ∧ K.lookup a = none ∧ u = .frz (scrO us) (.lst (ns.map V.int)))
  seq : SqL K H a (ns.map V.int)
section
variable {P : Program} {w : World} {K : PySem.W.Frag} {h : Heap} {T : List Addr} {a : Addr} {us : List Value} {ns : List Int} {H : Hp}
theorem first_ex (KX : K.In h) (ha : h.get? a = some (scrO us)) (hT : ∀ b ∈ T, h.get? b = some tabO) (hi : IntsAre us ns) (hl : ns.length ≤ sizeLine) : ∃ H, First K h T a us ns H := by
  have out : ∀ b ∈ T, b ≠ a := fun b hb e => by
    have q := hT b hb
    rw [e, ha] at q
    have := congrArg Obj.data (Option.some.inj q)
    cases this
  cases hk : K.lookup a with
  | some o =>
    have eo : o = scrO us := Option.some.inj ((KX a o hk).symm.trans ha)
    subst eo
    refine ⟨fun b => if b ∈ T then some (.tbl #[]) else none, fun b hb => if_pos hb, fun b u e => ?_, .inr ⟨scrO us, us.toArray, _, hk, rfl, rfl, rfl, ?_, ?_⟩⟩
    · by_cases m : b ∈ T
      · exact .inl ⟨m, Option.some.inj (e.symm.trans (if_pos m))⟩
      · cases (if_neg m).symm.trans e
    · rw [List.size_toArray, hi.length]; exact hl
    · have := vals_ints hi
      simpa using this
  | none =>
    refine ⟨fun b => if b ∈ T then some (.tbl #[]) else if b = a then some (.frz (scrO us) (.lst (ns.map V.int))) else none, fun b hb => if_pos hb, fun b u e => ?_, .inl (.inr ⟨scrO us, ?_⟩)⟩
    · by_cases m : b ∈ T
      · exact .inl ⟨m, Option.some.inj (e.symm.trans (if_pos m))⟩
      · have e := (if_neg m).symm.trans e
        by_cases q : b = a
        · exact .inr ⟨q, hk, Option.some.inj (e.symm.trans (if_pos q))⟩
        · cases (if_neg q).symm.trans e
    · show (if a ∈ T then some (HO.tbl #[]) else if a = a then _ else none) = _
      rw [if_neg (fun m => out a m rfl), if_pos rfl]
theorem First.get (F : First K h T a us ns H) (ha : h.get? a = some (scrO us)) (hT : ∀ b ∈ T, h.get? b = some tabO) {b : Addr} {u : HO} (e : H b = some u) : h.get? b = some tabO ∨ h.get? b = some (scrO us) := by
  rcases F.only b u e with ⟨m, _⟩ | ⟨rfl, _⟩
  · exact .inl (hT b m)
  · exact .inr ha
/-- an object of another kind is not tracked -/
theorem First.free (F : First K h T a us ns H) (ha : h.get? a = some (scrO us)) (hT : ∀ b ∈ T, h.get? b = some tabO) {b : Addr} {o : Obj} (e : h.get? b = some o) (n1 : o ≠ tabO) (n2 : o ≠ scrO us) : H b = none := by
  cases q : H b with
  | none => rfl
  | some u =>
    rcases F.get ha hT q with z | z
    · exact absurd (Option.some.inj (e.symm.trans z)) n1
    · exact absurd (Option.some.inj (e.symm.trans z)) n2
theorem other_dict {o : Obj} {es : Array DictEntry} {n : Nat} (d : o.data = .dict es n) : o ≠ tabO ∧ o ≠ scrO us := ⟨(fun z => by rw [z] at d; cases d), (fun z => by rw [z] at d; cases d)⟩
theorem First.hok (F : First K h T a us ns H) (ha : h.get? a = some (scrO us)) (hT : ∀ b ∈ T, h.get? b = some tabO) (hi : IntsAre us ns) (hl : ns.length ≤ sizeLine) : HOk P w H h := fun b u e => by
  rcases F.only b u e with ⟨m, rfl⟩ | ⟨rfl, _, rfl⟩
  · exact hT b m
  · exact ⟨ha, by rw [List.length_map]; exact hl, us, _, vals_ints hi, ha⟩
/-- the written part stands in what is not tracked -/
theorem First.kin (F : First K h T a us ns H) (KX : K.In h) (nT : ∀ b ∈ T, K.lookup b = none) : K.In (hidT h H) := fun b o e => by
  refine hidT_get (KX b o e) ?_
  cases q : H b with
  | none => rfl
  | some u =>
    rcases F.only b u q with ⟨m, _⟩ | ⟨rfl, z, _⟩
    · rw [nT b m] at e; cases e
    · rw [z] at e; cases e
theorem First.nsOf (F : First K h T a us ns H) (ha : h.get? a = some (scrO us)) (hT : ∀ b ∈ T, h.get? b = some tabO) {b : Addr} {m : Str → Option Value} (g : h.Ns b m) : (hidT h H).Ns b m := by
  obtain ⟨o, es, n, e, d, r⟩ := g
  exact ⟨o, es, n, hidT_get e (F.free ha hT e (other_dict (us := us) d).1 (other_dict (us := us) d).2), d, r⟩
end
theorem law_callG {P : Program} {w : World} {K : PySem.W.Frag} {mg mb : Str → Option Value} {k : Nat} {fa a : Addr} {cs : List (Addr × Addr)} {fd : FuncData} {x : Str} {sp : Sp} {s : Shared} {us : List Value} {ns : List Int}
    (KX : K.In s.heap) (gl : s.heap.Ns mainGlobals mg) (bl : s.heap.Ns builtinsNs mb) (bb : ∀ x : Str, x ≠ "__name__" → mb x = bootBuiltins x) (lim : s.heap.NoLimit) (gens : s.gens = #[])
    (hTc : ∀ p ∈ cs, s.heap.get? p.2 = some tabO) (nTc : ∀ p ∈ cs, K.lookup p.2 = none) (C : ∀ p ∈ cs, PySem.W.CodeHd s.heap p.1 p.2)
    (bm : ∃ (m : Addr) (o : Obj), mg "__builtins__" = some (.ref m) ∧ m ≠ builtinsNs ∧ s.heap.get? m = some o ∧ o.cls = .type "module" ∧ o.dict = some builtinsNs ∧ o.data = .plain)
    (ha : s.heap.get? a = some (scrO us)) (hi : IntsAre us ns) (hl : ns.length ≤ sizeLine) (hr : Room k callerA) (hgd : callerA.guards = some [])
    (F : ∀ base : Heap, K.In base → base.Ns mainGlobals mg → (∀ p ∈ cs, TabB base mg p.1 p.2) → FnG P w K mg base k fa fd [x] sp) (bind : ∀ (s : Shared) (u : Value), BindsTo s fd ⟨[u], []⟩ [(x, u)])
    (hsp : ∀ H : Hp, (∀ p ∈ cs, H p.2 = some (.tbl #[])) → SqL K H a (ns.map V.int) → sp [.ref a] H (fun v _ => v = .bl true) E0) :
    codeAny (model P w) callerA (.call (.ref fa) ⟨[.ref a], []⟩) (fun r t => r = .ok (.ret (.bool true)) ∧ OldK s.heap t.heap ∧ t.os = s.os ∧ AllBare t.gens) s := by
  have inT : ∀ {p}, p ∈ cs → p.2 ∈ cs.map (·.2) := fun hp => List.mem_map_of_mem hp
  have hT : ∀ b ∈ cs.map (·.2), s.heap.get? b = some tabO := fun b hb => by
    obtain ⟨p, hp, rfl⟩ := List.mem_map.mp hb
    exact hTc p hp
  have nT : ∀ b ∈ cs.map (·.2), K.lookup b = none := fun b hb => by
    obtain ⟨p, hp, rfl⟩ := List.mem_map.mp hb
    exact nTc p hp
  obtain ⟨H, W⟩ := first_ex KX ha hT hi hl
  have ok : HOk P w H s.heap := W.hok ha hT hi hl
  have gl' := W.nsOf ha hT gl
  have notG : ∀ {b o}, s.heap.get? b = some o → (∀ es n, o.data ≠ .dict es n) → b ≠ mainGlobals := fun {b o} e n q => by
    obtain ⟨o', es, m, e', d, _⟩ := gl
    rw [q, e'] at e
    rw [Option.some.inj e] at d
    exact n _ _ d
  have M : L2.Mod K mg (hidT s.heap H) := by
    obtain ⟨ml, l1, l2⟩ := lim
    exact ⟨W.kin KX nT, gl', ⟨mb, W.nsOf ha hT bl, bb⟩, ⟨ml, W.nsOf ha hT l1, l2⟩⟩
  have TB : ∀ p ∈ cs, TabB (hidT s.heap H) mg p.1 p.2 := fun p hp => by
    obtain ⟨o, vs, f1, f2, f3, f4, f5, f6, f7, e, c1, c2, c3, rest⟩ := C p hp
    obtain ⟨m, om, b1, b2, b3, b4, b5, b6⟩ := bm
    have fo : H p.1 = none := W.free ha hT e (fun z => by rw [z] at c1; cases c1) (fun z => by rw [z] at c1; exact absurd (show Value.type "list" = Value.type "code" from c1) (by decide))
    have fm : H m = none := W.free ha hT b3 (fun z => by rw [z] at b4; cases b4) (fun z => by rw [z] at b4; exact absurd (show Value.type "list" = Value.type "module" from b4) (by decide))
    have mG : m ≠ mainGlobals := notG b3 fun es n z => by rw [b6] at z; cases z
    have mP : m ≠ p.2 := fun z => by
      rw [z, hTc p hp] at b3
      rw [← Option.some.inj b3] at b6
      cases b6
    have pG : p.2 ≠ mainGlobals := notG (hTc p hp) fun es n z => by cases z
    exact ⟨⟨o, vs, f1, f2, f3, f4, f5, f6, f7, hidT_get e fo, c1, c2, c3, rest⟩, ⟨m, om, b1, b2, mG, mP, hidT_get b3 fm, b4, b5, b6⟩, pG.symm⟩
  have env : Env0 P w K mg (hidT s.heap H) callerA [] s H :=
    { frames := rfl, mod := M, bs := fun b o e => of_hidT e, bsz := Nat.le_of_eq (hidT_size _ _), funs := trivial, frf := fun b hb => (by cases hb), hok := ok, bare := .of_eq gens }
  have run := (F _ M.kin M.glob TB).run callerA [] s H ⟨[.ref a], []⟩ [.ref a] [.ref a] (fun v _ => v = .bl true) hr hgd env (bind s (.ref a)) (.cons rfl .nil) (hsp H (fun p hp => W.tab _ (inT hp)) W.seq)
  refine codeAny_mono run fun r t end_ => ?_
  match r, end_ with
  | .ok (.ret u), ⟨v, H', os, bare, un, ok', rv, e⟩ =>
    subst e
    obtain rfl : u = Value.bool true := rv
    -- what is no table stays
    have stay : ∀ b o, b ∉ cs.map (·.2) → s.heap.get? b = some o → t.heap.get? b = some o := fun b o nb e => by
      cases q : H b with
      | none => exact un.keep b o e q (fun z => by cases z) (fun z => by cases z)
      | some u =>
        rcases W.only b u q with ⟨m, _⟩ | ⟨rfl, _, rfl⟩
        · exact absurd m nb
        · rw [ha] at e
          rw [← Option.some.inj e]
          exact (ok' b _ (un.frzs b _ _ q)).1
    have grow : ∀ b ∈ cs.map (·.2), ∃ more : Array Value, t.heap.get? b = some { cls := .none, data := .fields more } := fun b hb => by
      obtain ⟨more, z⟩ := un.tbls b #[] (W.tab b hb)
      exact ⟨_, ok' b _ z⟩
    refine ⟨rfl, ⟨fun b o e => ?_, fun b o e => ?_⟩, os, bare⟩ <;> by_cases m : b ∈ cs.map (·.2)
    · obtain ⟨p, hp, rfl⟩ := List.mem_map.mp m
      obtain ⟨more, z⟩ := grow _ m
      have eo : o = tabO := Option.some.inj (e.symm.trans (hTc p hp))
      subst eo
      refine .inr (.inl ⟨((C p hp).tab (hTc p hp)).isCodeTable, rfl, #[], more, rfl, ?_⟩)
      rw [Array.empty_append]
      exact z
    · exact .inl (stay b o m e)
    · obtain ⟨more, z⟩ := grow b m
      exact ⟨_, z⟩
    · exact ⟨o, stay b o m e⟩
  | .ok .next, z => exact False.elim z
  | .ok .brk, z => exact False.elim z
  | .ok .cont, z => exact False.elim z
  | .error e, z => exact False.elim z
theorem fnG_defC {P : Program} {w : World} {K : PySem.W.Frag} {mg : Str → Option Value} {base : Heap} {k : Nat} {x : Str} {ps N : List Str} {sp : Sp} {st : Stmt} {cc f : Addr} {fd : FuncData} (F : FnP K x st f fd) (hc : fd.code = .ref cc)
    (S : FnScope N ps (defScope st)) (len : ∀ vs H Q E, sp vs H Q E → vs.length = ps.length)
    (hbody : ∀ (f : Addr) (A : Around) (outer : List Env) (s : Shared) (H : Hp) (vs : List V) (Q : VK), Room k (A.deeper (envOfC x (defScope st) s.heap.objs.size f (.ref cc))) → A.guards = some [] → sp vs H Q E0 →
      ∃ t, PSs (cxOf CX0 P w K mg base N x (defScope st) f (.ref cc) A outer s H E0).nox (defBody st) t ∧ t { nx := fun _ H' => Q .non H', rt := Q } (L2.start N vs) H) : FnG P w K mg base (k + 1) f fd ps sp := by
  obtain ⟨oc, od, dV, kV, doc, pm, an, cdv, ct, osl, rfl, lk, hcd, _, _⟩ := F.ex
  obtain rfl : cdv = .ref cc := hc
  constructor
  · exact len
  · intro A outer s H args us vs Q hr hgd e0 hbt r hsp
    refine run_ofS lk hcd S hr e0 hbt r (len _ _ _ _ hsp) fun hr' => ?_
    obtain ⟨t, h, q⟩ := hbody f A outer s H vs Q hr' hgd hsp
    exact ⟨t, h.nox, q⟩
def LawAtG (l : PySem.W.OpenLaw) (w : World) (K : PySem.W.Frag) (k n : Nat) (x : Str) (mg : Str → Option Value) (fa : Addr) (h : Heap) : Prop :=
  ∃ (fd : FuncData) (cs : List (Addr × Addr)) (sp : Sp), (∀ p ∈ cs, h.get? p.2 = some { cls := .none, data := .fields #[] }) ∧ (∀ p ∈ cs, K.lookup p.2 = none) ∧ (∀ p ∈ cs, PySem.W.CodeHd h p.1 p.2) ∧ (∀ (s : Shared) (u : Value), BindsTo s fd ⟨[u], []⟩ [(x, u)]) ∧
    (∀ (H : Hp) (a : Addr) (ns : List Int), ns.length ≤ n → (∀ p ∈ cs, H p.2 = some (.tbl #[])) → SqL K H a (ns.map V.int) → sp [.ref a] H (fun v _ => v = .bl true) E0) ∧
    ∀ base : Heap, K.In base → base.Ns mainGlobals mg → (∀ p ∈ cs, TabB base mg p.1 p.2) → FnG l.prog w K mg base k fa fd [x] sp
theorem walk_ofG {l : PySem.W.OpenLaw} {n k : Nat} {q : Program} {loose : List Str} {XP : (Str → Option Value) → Heap → Prop} {YP : World → Heap → Prop} {d : DefRec} {x : Str}
    (hn : l.most = some n) (hn2 : n ≤ sizeLine) (hdf : d.params.defaults = []) (hr : Room k callerA) (hgd : callerA.guards = some [])
    (F : ∀ (w : World) (mg : Str → Option Value) (fa : Addr) (h : Heap), YP w h → h.Ns mainGlobals mg → mg d.name = some (.ref fa) → ∃ K : PySem.W.Frag, K.In h ∧ LawAtG l w K k n x mg fa h) :
    PySem.W.WalkO q loose XP YP l.row.toRowW d [] (fun f vs => PySem.call f vs) := by
  refine Att.attach_callB hn hdf fun w s₀ s₁ mg mb fa o pm cd doc a vs ns G Y ho hd hcd hmg hobj hints hlen hbits hg => ?_
  obtain ⟨K, KX, fd, cs, sp, hT, nT, C, hb, hsp, hF⟩ := F w mg fa _ Y G.T.g hmg
  exact law_callG KX G.T.g G.T.b G.T.builtins G.T.nolimit hg hT nT C G.T.bmain hobj hints (Nat.le_trans hlen hn2) hr hgd hF hb (fun H hH hS => hsp H a ns hlen hH hS)
end LamX
end
section
set_option maxRecDepth 100000
set_option maxHeartbeats 4000000
namespace LamX
open PySem PySem.Spec PySem.Calls PyProof.Rows L2
/-- a law whose code object is not looked at -/
theorem fnG_def0 {P : Program} {w : World} {K : PySem.W.Frag} {mg : Str → Option Value} {base : Heap} {k : Nat} {x : Str} {ps N : List Str} {sp : Sp} {st : Stmt} {f : Addr} {fd : FuncData} (F : FnP K x st f fd)
    (S : FnScope N ps (defScope st)) (len : ∀ vs H Q E, sp vs H Q E → vs.length = ps.length)
    (hbody : ∀ (f : Addr) (cdv : Value) (A : Around) (outer : List Env) (s : Shared) (H : Hp) (vs : List V) (Q : VK), Room k (A.deeper (envOfC x (defScope st) s.heap.objs.size f cdv)) → A.guards = some [] → sp vs H Q E0 →
      ∃ t, PSs (cxOf CX0 P w K mg base N x (defScope st) f cdv A outer s H E0).nox (defBody st) t ∧ t { nx := fun _ H' => Q .non H', rt := Q } (L2.start N vs) H) : FnG P w K mg base (k + 1) f fd ps sp := by
  obtain ⟨oc, od, dV, kV, doc, pm, an, cdv, ct, osl, rfl, lk, hcd, _, _⟩ := F.ex
  constructor
  · exact len
  · intro A outer s H args us vs Q hr hgd e0 hbt r hsp
    refine run_ofS lk hcd S hr e0 hbt r (len _ _ _ _ hsp) fun hr' => ?_
    obtain ⟨t, h, q⟩ := hbody f cdv A outer s H vs Q hr' hgd hsp
    exact ⟨t, h.nox, q⟩
end LamX
end
section
set_option maxRecDepth 100000
set_option maxHeartbeats 4000000
namespace L2
open PySem PySem.Spec PyProof.Rows
/-! ### {(a, b): v for a in .. for b in ..}: two clauses, the keys tuples -/
/-- a dict comprehension of two clauses -/
abbrev dC2 (ke ve ta ia tb ib : Expr) (fa fb : List Expr) (sc : Scope) (ps : Pos) : Expr := .DictComp ke ve [⟨ta, ia, fa, 0⟩, ⟨tb, ib, fb, 0⟩] sc ps
abbrev tsL (fs : List Expr) (en : Env) : Sem Bool := forIn fs true fun c r =>
  if r = true then do let z ← isTrue c en (eval c en); pure (ForInStep.yield z)
  else pure (ForInStep.yield r)
section
variable {prog : Program} {w : World} {A : Around} {R : Result → Shared → Prop} {s : Shared} {ke ve ta ia tb ib : Expr} {fa fb : List Expr} {sc : Scope} {ps : Pos} {it acc : Value} {D : Addr} {en : Env}
theorem d2_turn0 : compTurn (dC2 ke ve ta ia tb ib fa fb sc ps) 0 it acc en = (do
    standAt ia.pos
    match ← pyNext it with
    | none => pure (.done .next)
    | some v =>
      letOwnedTupleGo ta it v; assign ta en v
      let mut z := true
      for c in fa do
        if z then z ← isTrue c en (eval c en)
      if z then
        let x ← eval ib en
        standAt ib.pos
        let x ← foldedSetIterable ib en x
        let _ ← runOwn (.compStart (dC2 ke ve ta ia tb ib fa fb sc ps) 1 (← holding [x] (pyIter x)) acc en) en
      again (.compLoop (dC2 ke ve ta ia tb ib fa fb sc ps) 0 it acc en)) := by rfl
theorem d2_turn1 : compTurn (dC2 ke ve ta ia tb ib fa fb sc ps) 1 it (.ref D) en = (do
    standAt ib.pos
    match ← pyNext it with
    | none => pure (.done .next)
    | some v =>
      letOwnedTupleGo tb it v; assign tb en v
      let mut z := true
      for c in fb do
        if z then z ← isTrue c en (eval c en)
      if z then
        (do
          let k1 ← eval ke en
          let v1 ← holding [k1] (eval ve en)
          standAt { ke.pos with endLine := ve.pos.endLine, endCol := ve.pos.endCol }
          holding [k1, v1] (dictSet D k1 v1))
      again (.compLoop (dC2 ke ve ta ia tb ib fa fb sc ps) 1 it (.ref D) en)) := by rfl
abbrev nB (prog : Program) (w : World) (A : Around) (en : Env) (R : Result → Shared → Prop) : Value → Shared → Prop := notedBy (model prog w) A en fun e s' => R (.error e) s'
theorem d2_out (hs : ∀ x, foldedSetIterable ib en x = pure x) (I : Nat → Shared → Prop)
    (turn : ∀ n s, I n s → wpAny (model prog w) A (pyNext it) (fun r s1 => match r with
      | none => R (.ok .next) s1
      | some v => wpAny (model prog w) A (letOwnedTupleGo ta it v) (fun _ s2 =>
          wpAny (model prog w) A (assign ta en v) (fun _ s3 => wpAny (model prog w) A (tsL fa en) (fun z s4 =>
            if z = true then wpAny (model prog w) A (eval ib en) (fun x s5 =>
              wpAny (model prog w) A (pyIter x) (fun it1 s6 => codeAny (model prog w) A (.compStart (dC2 ke ve ta ia tb ib fa fb sc ps) 1 it1 acc en) (fun r s' => match r with
                | .ok _ => ∃ m, m < n ∧ I m s'
                | .error _ => False) s6) (nB prog w A en R) s5) (nB prog w A en R) s4
            else ∃ m, m < n ∧ I m s4) (nB prog w A en R) s3) (nB prog w A en R) s2) (nB prog w A en R) s1) (nB prog w A en R) s)
    (n : Nat) (h : I n s) : codeAny (model prog w) A (.compLoop (dC2 ke ve ta ia tb ib fa fb sc ps) 0 it acc en) R s := by
  refine codeAny_loop rfl I (fun n s hn => ?_) n h
  show wpAny _ A ((compTurn (dC2 ke ve ta ia tb ib fa fb sc ps) 0 it acc en).onRaise fun x => do noteFrame x en; theTreesLotGoes x) _ _ s
  refine wpAny_noted ?_
  rw [d2_turn0]
  refine wpAny_bind (wpAny_standAt (wpAny_bind (wpAny_mono (turn n s hn) (fun r s1 g1 => ?_) fun _ _ q => q)))
  rcases r with _ | v
  · exact wpAny_pure g1
  · refine wpAny_bind (wpAny_mono g1 (fun _ s2 g2 => ?_) fun _ _ q => q)
    refine wpAny_bind (wpAny_mono g2 (fun _ s3 g3 => wpAny_bind (wpAny_mono g3 (fun z s4 g4 => ?_) fun _ _ q => q)) fun _ _ q => q)
    rcases z with _ | _
    · exact wpAny_pure ⟨rfl, g4⟩
    · refine wpAny_bind (wpAny_mono g4 (fun x s5 g5 => ?_) fun _ _ q => q)
      refine wpAny_bind (wpAny_standAt (wpAny_bind (wpAny_of_eq (hs x) (wpAny_bind (wpAny_holding (wpAny_mono g5 (fun it1 s6 g6 => ?_) fun _ _ q => q))))))
      refine wpAny_bind (wpAny_runOwn ?_)
      rw [Around.mark_none]
      refine codeAny_mono g6 fun r s' gr => ?_
      rcases r with e | f
      · first
          | exact gr.elim
          | exact wpAny_pure ⟨rfl, gr⟩
          | exact wpAny_bind (wpAny_pure (wpAny_pure ⟨rfl, gr⟩))
      · first
          | exact gr.elim
          | exact wpAny_pure ⟨rfl, gr⟩
          | exact wpAny_bind (wpAny_pure (wpAny_pure ⟨rfl, gr⟩))
theorem d2_in (I : Nat → Shared → Prop)
    (turn : ∀ n s, I n s → wpAny (model prog w) A (pyNext it) (fun r s1 => match r with
      | none => R (.ok .next) s1
      | some v => wpAny (model prog w) A (letOwnedTupleGo tb it v) (fun _ s2 =>
          wpAny (model prog w) A (assign tb en v) (fun _ s3 => wpAny (model prog w) A (tsL fb en) (fun z s4 =>
            if z = true then wpAny (model prog w) A (eval ke en) (fun k1 s5 =>
              wpAny (model prog w) A (eval ve en) (fun v1 s6 => wpAny (model prog w) A (dictSet D k1 v1) (fun _ s7 => ∃ m, m < n ∧ I m s7) (nB prog w A en R) s6) (nB prog w A en R) s5) (nB prog w A en R) s4
            else ∃ m, m < n ∧ I m s4) (nB prog w A en R) s3) (nB prog w A en R) s2) (nB prog w A en R) s1) (nB prog w A en R) s)
    (n : Nat) (h : I n s) : codeAny (model prog w) A (.compLoop (dC2 ke ve ta ia tb ib fa fb sc ps) 1 it (.ref D) en) R s := by
  refine codeAny_loop rfl I (fun n s hn => ?_) n h
  show wpAny _ A ((compTurn (dC2 ke ve ta ia tb ib fa fb sc ps) 1 it (.ref D) en).onRaise fun x => do noteFrame x en; theTreesLotGoes x) _ _ s
  refine wpAny_noted ?_
  rw [d2_turn1]
  refine wpAny_bind (wpAny_standAt (wpAny_bind (wpAny_mono (turn n s hn) (fun r s1 g1 => ?_) fun _ _ q => q)))
  rcases r with _ | v
  · exact wpAny_pure g1
  · refine wpAny_bind (wpAny_mono g1 (fun _ s2 g2 => ?_) fun _ _ q => q)
    refine wpAny_bind (wpAny_mono g2 (fun _ s3 g3 => wpAny_bind (wpAny_mono g3 (fun z s4 g4 => ?_) fun _ _ q => q)) fun _ _ q => q)
    rcases z with _ | _
    · exact wpAny_pure ⟨rfl, g4⟩
    · exact wpAny_bind (wpAny_bind (wpAny_mono g4 (fun k1 s5 g5 => wpAny_bind (wpAny_holding (wpAny_mono g5 (fun v1 s6 g6 =>
        wpAny_bind (wpAny_standAt (wpAny_holding (wpAny_mono g6 (fun _ s7 g7 => wpAny_pure ⟨rfl, g7⟩) fun _ _ q => q)))) fun _ _ q => q))) fun _ _ q => q))
theorem d2_start1 (h0 : codeAny (model prog w) A (.compLoop (dC2 ke ve ta ia tb ib fa fb sc ps) 1 it acc en) R s)
    (h : wpAny (model prog w) A (pyIter it) (fun it' s' => codeAny (model prog w) A (.compLoop (dC2 ke ve ta ia tb ib fa fb sc ps) 1 it' acc en) R s') (nB prog w A en R) s) :
    codeAny (model prog w) A (.compStart (dC2 ke ve ta ia tb ib fa fb sc ps) 1 it acc en) R s := by
  refine codeAny_of_tree ?_
  show wpAny _ _ ((compStart (dC2 ke ve ta ia tb ib fa fb sc ps) 1 it acc en).onRaise fun x => do noteFrame x en; standAt theWindowsPlace) _ _ s
  refine wpAny_notedAt ?_
  unfold compStart
  show wpAny _ _ (ask >>= _) _ _ s
  refine wpAny_bind (wpAny_askSetting (wpAny_ite ?_))
  split
  · first
      | exact wpAny_pure ⟨rfl, h0⟩
      | exact wpAny_bind (wpAny_pure (wpAny_pure ⟨rfl, h0⟩))
  · first
      | exact wpAny_bind (wpAny_rule (wpAny_bind (wpAny_standAt (wpAny_bind (wpAny_mono h (fun _ _ q => wpAny_pure ⟨rfl, q⟩) fun _ _ q => q)))))
      | (refine wpAny_bind (wpAny_rule ?_)
         show wpAny _ _ (standAt ib.pos >>= _) _ _ s
         exact wpAny_bind (wpAny_standAt (wpAny_bind (wpAny_mono h (fun _ _ q => wpAny_pure ⟨rfl, q⟩) fun _ _ q => q))))
end
end L2
end
section
set_option maxRecDepth 100000
set_option maxHeartbeats 4000000
namespace L2
open PySem PySem.Spec PyProof.Rows
/-- d[b] = v by a comprehension, b a tuple that is tracked -/
theorem d2_store {X : Cx} {pins : List (Addr × Obj)} {σ : St} {H : Hp} {s : Shared} {E : Value → Shared → Prop} {D b : Addr} {kvs : List (List Key × V)} {k : List Key} {v : V} {r : Value} {Q : Unit → Shared → Prop} (hu : X.A.units < cLine) (I : Inv X pins σ H s)
    (hD : H D = some (.dT kvs)) (hb : H b = some (.tup (k.map kV))) (hz : kvs.length < sizeLine) (rv : RelV v r) (h : ∀ s', Inv X pins σ (upd H D (.dT (putK kvs k v))) s' → Q () s') : wpAny (model X.prog X.w) X.A (dictSet D (.ref b) r) Q E s := by
  obtain ⟨z, nd, xs, rel, dd⟩ := dt_of I.hok hD
  have zx : xs.length ≤ sizeLine := by rw [← Paired.length rel]; exact z
  have zk : (putK kvs k v).length ≤ sizeLine := by have := length_putK kvs k v; omega
  refine wpAny_dictSet_heap (hsz := zx) (show (tupleKind (mixKind X.prog X.w)).room X.A from hu) (key_of I.hok hb) dd fun h' dd' sb => h _ ?_
  obtain ⟨q, es, ep, e1, e2, e3, e4, _, e5⟩ := dd'
  refine d_write I (by rw [hD]; exact True.intro) sb ⟨q, e1⟩ ⟨zk, nd, _, (rel.put k hb rv).keeps fun c ys ec => ?_, q, es, ep, e1, e2, e3, e4, e5⟩
  rw [upd_ne (ne_of ec hD fun z => nomatch z)]
  exact ec
/-- {key: v for tg in .. for tg1 in ..}, the keys tuples. vs: the block's names; vs1: those of the second target -/
def tDc2 (wi : TI) (g : TG) (tt : TT) (wi1 : TI) (g1 : TG) (tt1 : TT) (tk tv : TE) (vs vs1 : List Nat) : TE := fun σ H Q => wi σ H fun J H1 => ∀ D, H1 D = none → ∃ W : Nat → Nat → Hp → Prop,
  (∃ m, W 0 m (upd H1 D (.dT []))) ∧ ∀ i m H, W i m H → (J.stop i H ∧ Q (.ref D) H) ∨ (J.go i H ∧ ∃ Nx : Hp → Prop,
    (∀ H', Nx H' → ∃ m', m' < m ∧ W (i + 1) m' H') ∧ ∀ x H', J.yld i H x H' → g x (wipe σ vs) H' fun σ2 H2 => wipe σ2 vs = wipe σ vs ∧ tt σ2 H2 fun b H3 =>
      if b = true then wi1 σ2 H3 fun J1 H4 => ∃ W1 : Nat → Nat → Hp → Prop, (∃ m, W1 0 m H4) ∧ ∀ j k H, W1 j k H →
        (J1.stop j H ∧ Nx H) ∨ (J1.go j H ∧ ∃ Nx1 : Hp → Prop, (∀ H', Nx1 H' → ∃ k', k' < k ∧ W1 (j + 1) k' H') ∧ ∀ x H', J1.yld j H x H' → g1 x (wipe σ2 vs1) H' fun σ3 H5 => wipe σ3 vs1 = wipe σ2 vs1 ∧ tt1 σ3 H5 fun b H6 =>
          if b = true then tk σ3 H6 fun y H7 => tv σ3 H7 fun z H8 => ∃ a kvs k, y = .ref a ∧ H8 a = some (.tup (k.map kV)) ∧ H8 D = some (.dT kvs) ∧ kvs.length < sizeLine ∧ Nx1 (upd H8 D (.dT (putK kvs k z)))
          else Nx1 H6)
      else Nx H3)
section
variable {X : Cx}
abbrev inB (X : Cx) (sc : Scope) (F : Cx → Prop) : Prop := ∀ (s : Shared) (H : Hp) (C : Addr) (cl : List (Str × Addr)) (fp : List Addr), F (X.blk s H sc (compEnvC sc cl C X.env) fp)
theorem d2_core {pins : List (Addr × Obj)} {s : Shared} {σ : St} {H : Hp} {Q : VK} {ke ve ta ia tb ib : Expr} {fa fb : List Expr} {sc : Scope} {own : List (Str × Nat)} {vs1 : List Nat} {ps ps' : Pos} {wi wi1 : TI} {g g1 : TG} {tt tt1 : TT} {tk tv : TE} {use : Option (Value → Sem Unit)} {Qf : Value → Shared → Prop}
    (hc : X.calm = true) (hu : X.A.units < cLine) (hN : X.N.Nodup) (I : Inv X pins σ H s) (hi : PI X ta ia wi) (ok : BlkOk X.N X.env.scope sc own) (hv : ∀ i ∈ vs1, i ∈ own.map (·.2))
    (hg : inB X sc fun Y => PG Y ta g) (ht : inB X sc fun Y => PTs Y fa tt) (hk : inB X sc fun Y => PE Y ke tk) (he : inB X sc fun Y => PE Y ve tv) (hs : ∀ x, foldedSetIterable ia X.env x = pure x)
    (hi1 : inB X sc fun Y => PI Y tb ib wi1) (hg1 : inB X sc fun Y => PG Y tb g1) (ht1 : inB X sc fun Y => PTs Y fb tt1) (hs1 : ∀ env x, foldedSetIterable ib env x = pure x)
    (h : tDc2 wi g tt wi1 g1 tt1 tk tv (own.map (·.2)) vs1 σ H Q)
    (hR : ∀ D C s' m H', Inv X pins σ H' s' → Q (.ref D) H' → s'.heap.Ns C m → FpOk X pins H' C → compPost (model X.prog X.w) X.A X.xe use Qf (.ref D) C (.ok .next) s') :
    wpAny (model X.prog X.w) X.A (comprehension (dC2 ke ve ta ia tb ib fa fb sc ps) sc X.env ps' newDict false (eval ia X.env) use) Qf X.xe s := by
  have free : ∀ y ∈ sc.names, y.2 = .free → ∃ c, X.env.cells.lookup y.1 = some c := fun y hy e => (ok.free y hy e).elim (fun z => I.ok.has _ (.inl z)) fun z => I.ok.has _ (.inr z)
  refine wpAny_comprehension_free (use := use) rfl hs (closure_ok free) ok.kind (fun y hy e => by rw [ok.uniq y hy, e]) (thn (hi.run pins s σ H _ I h) fun xv s1 hx => thn hx fun itv s2 h2 => ?_)
  obtain ⟨it, fp, tn, J, H2, e, I2, T, st2, f2, q⟩ := h2
  subst e
  refine wpAny_newObj_type (newEnv_comp ?_)
  generalize hD : s2.heap.objs.size = D
  obtain ⟨W, ⟨m0, w0⟩, turn⟩ := q D (I2.hok.fresh (Nat.le_of_eq hD))
  generalize hs3 : ({ s2 with heap := s2.heap.push { cls := .type "dict", data := .dict #[] } } : Shared) = s3
  have h3 : s3.heap = s2.heap.push { cls := .type "dict", data := .dict #[] } := by rw [← hs3]
  have I3 : Inv X pins σ (upd H2 D (.dT [])) s3 := by
    rw [← hs3]
    refine I2.laid (t' := s2.toks) (fun b o e => Heap.get?_push_of_some _ e) (Nat.le_of_eq hD) ?_
    rw [← hD]
    exact dt_empty s2.heap I2.big
  have f3 : ∀ b ∈ fp, FpOk X pins (upd H2 D (.dT [])) b ∧ b < s3.heap.objs.size := fun b hb => by
    obtain ⟨o, eo, _⟩ := T.obj _ _ st2 b hb
    have lt := Heap.lt_size eo
    refine ⟨⟨?_, (f2 b hb).2⟩, by rw [h3, Heap.size_push]; exact Nat.lt_succ_of_lt lt⟩
    rw [upd_ne (by rw [← hD]; exact Nat.ne_of_lt lt)]
    exact (f2 b hb).1
  have st3 : tn 0 s3.heap := T.keep _ _ _ st2 fun b _ o e => by rw [h3]; exact Heap.get?_push_of_some _ e
  have I4 := block_start I3 ok hN f3
  generalize hcl : cellsFrom (s3.heap.objs.size + 1) sc.names (cloFrom X.env.cells sc.names []) = cl at I4
  have pg := hg s3 (upd H2 D (.dT [])) s3.heap.objs.size cl fp
  have pt := ht s3 (upd H2 D (.dT [])) s3.heap.objs.size cl fp
  have pk := hk s3 (upd H2 D (.dT [])) s3.heap.objs.size cl fp
  have pe := he s3 (upd H2 D (.dT [])) s3.heap.objs.size cl fp
  have pi1 := hi1 s3 (upd H2 D (.dT [])) s3.heap.objs.size cl fp
  have pg1 := hg1 s3 (upd H2 D (.dT [])) s3.heap.objs.size cl fp
  have pt1 := ht1 s3 (upd H2 D (.dT [])) s3.heap.objs.size cl fp
  have nfp : ∀ b ∈ fp, (upd H2 D (.dT [])) b = none := fun b hb => (f3 b hb).1.1
  have goal0 : codeAny (model X.prog X.w) X.A (.compStart (dC2 ke ve ta ia tb ib fa fb sc ps) 0 (.ref it) (.ref D) (compEnvC sc cl s3.heap.objs.size X.env)) (compPost (model X.prog X.w) X.A X.xe use Qf (.ref D) s3.heap.objs.size)
      { s3 with heap := pushCells (s3.heap.push { cls := .type "dict", data := .dict #[] }) sc.names } := by
    generalize hce : compEnvC sc cl s3.heap.objs.size X.env = ce at I4 pg pt pk pe pi1 pg1 pt1 ⊢
    have cL : ce.locals = s3.heap.objs.size := by subst hce; rfl
    generalize hH3 : upd H2 D (.dT []) = H3 at I3 I4 pg pt pk pe pi1 pg1 pt1 w0 nfp f3
    generalize hs4 : ({ s3 with heap := pushCells (s3.heap.push { cls := .type "dict", data := .dict #[] }) sc.names } : Shared) = s4 at I4 ⊢
    have st4 : tn 0 s4.heap := T.keep _ _ _ st3 fun b _ o e => by rw [← hs4]; exact pushCells_keeps _ _ _ _ (Heap.get?_push_of_some _ e)
    have keepF : ∀ {σ' : St} {H' : Hp} {s' : Shared}, Inv (X.blk s3 H3 sc ce fp) [] σ' H' s' → (∀ b ∈ fp, H' b = none) → ∀ b ∈ fp, FpOk (X.blk s3 H3 sc ce fp) [] H' b := fun {σ' H' s'} I' hn b hb =>
      ⟨hn b hb, (I'.ok.exf b hb).1, I'.ok.exfs b hb, .inl hb, fun x c e => (I'.ok.exf b hb).2 x c e, fun p hp => by cases (show p ∈ ([] : List (Addr × Obj)) from hp)⟩
    -- what stands at the head of each turn
    let Hd : Nat → Shared → Prop := fun n s' => ∃ i H', Inv (X.blk s3 H3 sc ce fp) [] (wipe σ (own.map (·.2))) H' s' ∧ tn i s'.heap ∧ (∀ b ∈ fp, H' b = none) ∧ W i n H'
    refine codeAny_compStart_dict ?_ (T.self X.A 0 _ _ _ st4 ?_)
    all_goals
      refine d2_out (hs1 ce) Hd ?_ m0 ⟨0, H3, I4, st4, nfp, w0⟩
      rintro n s5 ⟨i, H5, I5, st5, n5, w5⟩
      rcases turn i n H5 w5 with ⟨stop, qq⟩ | ⟨go, Nx, hNx, step⟩
      · refine thnF (T.done (X.blk s3 H3 sc ce fp) rfl rfl rfl hc i [] s5 _ H5 (fun _ _ => False) I5 (keepF I5 n5) st5 stop) fun r s6 ⟨er, I6⟩ => ?_
        subst er
        have I7 : Inv X pins σ H5 s6 := I3.call' (ch := fp) I6.os I6.base I6.hok I6.bare fun b hb =>
          let z := (f3 b hb).1.2
          ⟨z.2.2.1, z.1, z.2.2.2.1, z.2.2.2.2⟩
        have nC : H5 s3.heap.objs.size = none := cL ▸ (show H5 ce.locals = none from I6.free)
        obtain ⟨m, hn, _⟩ := I6.loc
        exact hR D s3.heap.objs.size s6 m H5 I7 qq (cL ▸ (show s6.heap.Ns ce.locals m from hn)) (I3.fpOk (Nat.le_refl _) nC)
      · refine thnF (T.item (X.blk s3 H3 sc ce fp) rfl rfl rfl hc i [] s5 _ H5 (fun _ _ => False) I5 (keepF I5 n5) st5 go) fun r s6 ⟨u, er, h6⟩ => ?_
        subst er
        refine thnF h6 fun _ s7 ⟨x, H7, I7, r7, y7, st7, n7⟩ => ?_
        have P7 := I7.pinned (keepF I7 n7) (T.obj _ _ st7)
        refine thnF (pg.run _ s7 _ H7 x u _ P7 r7 (step x H7 y7)) fun _ s8 ⟨σ8, H8, I8, hw8, q8⟩ => ?_
        refine thnF (pt.run _ s8 σ8 H8 _ I8 q8) fun b s9 ⟨H9, I9, q9⟩ => ?_
        have back : ∀ {σ9 : St} {s' : Shared} {H' : Hp}, Inv (X.blk s3 H3 sc ce fp) ([] ++ pinsAt fp s7.heap) σ9 H' s' → (wipe σ (own.map (·.2))).length = σ9.length →
            (∀ (j : Nat) v, (wipe σ (own.map (·.2)))[j]? = some (some v) → σ9[j]? = some (some v)) → Nx H' → ∃ m, m < n ∧ Hd m s' := fun {σ9 s' H'} I' e1 e2 nx => by
          obtain ⟨m', lt, w'⟩ := hNx H' nx
          have stays : ∀ b ∈ fp, ∀ o, s7.heap.get? b = some o → s'.heap.get? b = some o ∧ H' b = none := fun b hb o e => by
            have z := I'.pin (b, o) (List.mem_append_right _ (List.mem_append_right _ (mem_pinsAt hb e)))
            exact ⟨z.1, z.2.1⟩
          refine ⟨m', lt, i + 1, H', (I'.unpinned (pins := [])).weak e1 e2, T.keep _ _ _ st7 fun b hb o e => (stays b hb o e).1, fun b hb => ?_, w'⟩
          obtain ⟨o, e, _⟩ := T.obj _ _ st7 b hb
          exact (stays b hb o e).2
        have e8 : (wipe σ (own.map (·.2))).length = σ8.length := by rw [← hw8, wipe_length]
        have k8 : ∀ (j : Nat) v, (wipe σ (own.map (·.2)))[j]? = some (some v) → σ8[j]? = some (some v) := fun j v e => (wipe_some (hw8.symm ▸ e)).1
        have k9 : ∀ (j : Nat) v, (wipe σ (own.map (·.2)))[j]? = some (some v) → (wipe σ8 vs1)[j]? = some (some v) := fun j v e => by
          obtain ⟨z1, z2⟩ := wipe_some (hw8.symm ▸ e)
          exact (wipe_out fun z => z2 (hv j z)).trans z1
        rcases b with _ | _
        · exact back I9 e8 k8 q9
        · refine thnF (pi1.run _ s9 σ8 H9 _ I9 q9) fun xv s10 hx => thnF hx fun itv s11 h11 => ?_
          obtain ⟨it1, fp1, tn1, J1, H11, e1, I11, T1, st11, f11, W1, ⟨m1, w1⟩, turn1⟩ := h11
          subst e1
          have keepG : ∀ {H' : Hp}, (∀ b ∈ fp1, H' b = none) → ∀ b ∈ fp1, FpOk (X.blk s3 H3 sc ce fp) ([] ++ pinsAt fp s7.heap) H' b := fun hn b hb => ⟨hn b hb, (f11 b hb).2⟩
          let Hd1 : Nat → Shared → Prop := fun k s' => ∃ j H', Inv (X.blk s3 H3 sc ce fp) ([] ++ pinsAt fp s7.heap) (wipe σ8 vs1) H' s' ∧ tn1 j s'.heap ∧ (∀ b ∈ fp1, H' b = none) ∧ W1 j k H'
          refine d2_start1 ?_ (T1.self X.A 0 _ _ _ st11 ?_)
          all_goals
            refine d2_in Hd1 ?_ m1 ⟨0, H11, I11.weak (wipe_length _ _) (fun j v e => (wipe_some e).1), st11, fun b hb => (f11 b hb).1, w1⟩
            rintro k s12 ⟨j, H12, I12, st12, n12, w12⟩
            rcases turn1 j k H12 w12 with ⟨stop1, nx1⟩ | ⟨go1, Nx1, hNx1, step1⟩
            · refine thnF (T1.done (X.blk s3 H3 sc ce fp) rfl rfl rfl hc j _ s12 (wipe σ8 vs1) H12 (fun _ _ => False) I12 (keepG n12) st12 stop1) fun r s13 ⟨er, I13⟩ => ?_
              subst er
              exact back I13 (e8.trans (wipe_length σ8 vs1).symm) k9 nx1
            · refine thnF (T1.item (X.blk s3 H3 sc ce fp) rfl rfl rfl hc j _ s12 (wipe σ8 vs1) H12 (fun _ _ => False) I12 (keepG n12) st12 go1) fun r s13 ⟨u1, er, h13⟩ => ?_
              subst er
              refine thnF h13 fun _ s14 ⟨x1, H14, I14, r14, y14, st14, n14⟩ => ?_
              have P14 := I14.pinned (keepG n14) (T1.obj _ _ st14)
              refine thnF (pg1.run _ s14 (wipe σ8 vs1) H14 x1 u1 _ P14 r14 (step1 x1 H14 y14)) fun _ s15 ⟨σ15, H15, I15, hw15, q15⟩ => ?_
              refine thnF (pt1.run _ s15 σ15 H15 _ I15 q15) fun b1 s16 ⟨H16, I16, q16⟩ => ?_
              have back1 : ∀ {s' : Shared} {H' : Hp}, Inv (X.blk s3 H3 sc ce fp) (([] ++ pinsAt fp s7.heap) ++ pinsAt fp1 s14.heap) σ15 H' s' → Nx1 H' → ∃ m, m < k ∧ Hd1 m s' := fun {s' H'} I' nx => by
                obtain ⟨m', lt, w'⟩ := hNx1 H' nx
                have stays : ∀ b ∈ fp1, ∀ o, s14.heap.get? b = some o → s'.heap.get? b = some o ∧ H' b = none := fun b hb o e => by
                  have z := I'.pin (b, o) (List.mem_append_right _ (List.mem_append_right _ (mem_pinsAt hb e)))
                  exact ⟨z.1, z.2.1⟩
                refine ⟨m', lt, j + 1, H', I'.unpinned.weak (by rw [← hw15, wipe_length]) (fun j v e => (wipe_some (hw15.symm ▸ e)).1), T1.keep _ _ _ st14 fun b hb o e => (stays b hb o e).1, fun b hb => ?_, w'⟩
                obtain ⟨o, e, _⟩ := T1.obj _ _ st14 b hb
                exact (stays b hb o e).2
              rcases b1 with _ | _
              · exact back1 I16 q16
              · refine thnF (pk.run _ s16 σ15 H16 _ I16 q16) fun y s17 ⟨yk, H17, I17, r17, q17⟩ => ?_
                refine thnF (pe.run _ s17 σ15 H17 _ I17 q17) fun z s18 ⟨yv, H18, I18, r18, a, kvs, kk, ey, ha, hDD, hz, nx⟩ => ?_
                subst ey
                obtain rfl : y = Value.ref a := r17
                exact d2_store (X := X.blk s3 H3 sc ce fp) hu I18 hDD ha hz r18 fun s19 I19 => back1 I19 nx
  subst hcl
  exact goal0
/-- as a value -/
theorem pe_dc2 {ke ve ta ia tb ib : Expr} {fa fb : List Expr} {sc : Scope} {own : List (Str × Nat)} {vs1 : List Nat} {ps : Pos} {wi wi1 : TI} {g g1 : TG} {tt tt1 : TT} {tk tv : TE}
    (hc : X.calm = true) (hu : X.A.units < cLine) (hN : X.N.Nodup) (hi : PI X ta ia wi) (ok : BlkOk X.N X.env.scope sc own) (hv : ∀ i ∈ vs1, i ∈ own.map (·.2))
    (hg : inB X sc fun Y => PG Y ta g) (ht : inB X sc fun Y => PTs Y fa tt) (hi1 : inB X sc fun Y => PI Y tb ib wi1) (hg1 : inB X sc fun Y => PG Y tb g1) (ht1 : inB X sc fun Y => PTs Y fb tt1)
    (hk : inB X sc fun Y => PE Y ke tk) (he : inB X sc fun Y => PE Y ve tv) (hs : ∀ x, foldedSetIterable ia X.env x = pure x := by intro _; rfl) (hs1 : ∀ env x, foldedSetIterable ib env x = pure x := by intro _ _; rfl) :
    PE X (.DictComp ke ve [⟨ta, ia, fa, 0⟩, ⟨tb, ib, fb, 0⟩] sc ps) (tDc2 wi g tt wi1 g1 tt1 tk tv (own.map (·.2)) vs1) := by
  refine ⟨fun pins s σ H Q I h => ?_⟩
  rw [arm_eval_DictComp]
  refine d2_core hc hu hN I hi ok hv hg ht hk he hs hi1 hg1 ht1 hs1 h fun D C s' m H' I' q hn f => ⟨m, hn, fun h'' sb => ?_⟩
  obtain ⟨a0, a1, a2, a3, a4, a5⟩ := f
  exact ⟨.ref D, H', I'.turned (t' := s'.toks) (fun b o hb e => (sb.2 b hb).trans e) a0 a1 a3 a4 a5, rfl, q⟩
end
end L2
end
section
set_option maxRecDepth 100000
set_option maxHeartbeats 4000000
namespace L2
open PySem PySem.Spec PyProof.Rows
/-! ### loops by any step over a range -/
theorem rng_W {lo : Int} {n L : Nat} {H0 : Hp} {Qd : Hp → Prop} {B : V → (Hp → Prop) → Hp → Prop} (hn : n = L) (Pv : Nat → Hp → Prop) (h0 : Pv 0 H0) (hs : ∀ i H, i < L → Pv i H → B (.int (lo + i)) (Pv (i + 1)) H) (hd : ∀ H, Pv L H → Qd H) :
    ∃ W : Nat → Nat → Hp → Prop, (∃ m, W 0 m H0) ∧ ∀ i m H, W i m H → ((Itr lo n).stop i H ∧ Qd H) ∨ ((Itr lo n).go i H ∧ ∃ Nx : Hp → Prop, (∀ H', Nx H' → ∃ m', m' < m ∧ W (i + 1) m' H') ∧ ∀ x H', (Itr lo n).yld i H x H' → B x Nx H') := by
  subst hn
  refine ⟨fun i m H => m = n - i ∧ i ≤ n ∧ Pv i H, ⟨n, by simp, Nat.zero_le _, h0⟩, ?_⟩
  rintro i m H ⟨rfl, hi, p⟩
  by_cases lt : i < n
  · refine .inr ⟨lt, Pv (i + 1), fun H' p' => ⟨n - (i + 1), by omega, rfl, lt, p'⟩, fun x H' y => ?_⟩
    obtain ⟨e1, e2⟩ := y
    subst e1 e2
    exact hs i _ lt p
  · obtain rfl : i = n := by omega
    exact .inl ⟨Nat.le_refl _, hd H p⟩
/-! ### a list of rows of ints -/
def rowV (n : Nat) (f : Nat → Int) : List V := (List.range n).map fun b => V.int (f b)
theorem rowV_len {n : Nat} {f : Nat → Int} : (rowV n f).length = n := by unfold rowV; rw [List.length_map, List.length_range]
theorem rowV_get {n : Nat} {f : Nat → Int} {b : Nat} (h : b < n) : (rowV n f)[b]? = some (.int (f b)) := by
  unfold rowV
  rw [List.getElem?_map, List.getElem?_range h]
  rfl
theorem rowV_congr {n : Nat} {f g : Nat → Int} (h : ∀ b, b < n → f b = g b) : rowV n f = rowV n g := by
  unfold rowV
  refine List.map_congr_left fun b hb => ?_
  rw [h b (List.mem_range.mp hb)]
theorem rowV_set {n : Nat} {f : Nat → Int} {b : Nat} {v : Int} : (rowV n f).set b (.int v) = rowV n fun y => if y = b then v else f y := by
  refine List.ext_getElem? fun i => ?_
  rw [List.getElem?_set, rowV_len]
  by_cases h : i < n
  · rw [rowV_get h, rowV_get h]
    by_cases e : b = i
    · subst e
      rw [if_pos rfl, if_pos h, if_pos rfl]
    · rw [if_neg e, if_neg fun z => e z.symm]
  · rw [List.getElem?_eq_none (by rw [rowV_len]; omega), List.getElem?_eq_none (by rw [rowV_len]; omega)]
    split
    · exact if_neg (by omega)
    · rfl
theorem rowV_rep {n : Nat} {z : Int} : (List.replicate n [V.int z]).flatten = rowV n fun _ => z := by
  induction n with
  | zero => rfl
  | succ n ih =>
    rw [List.replicate_succ', List.flatten_append, ih]
    unfold rowV
    rw [List.range_succ, List.map_append]
    rfl
theorem rowV_ints {n : Nat} {f : Nat → Int} : rowV n f = ((List.range n).map f).map V.int := by unfold rowV; rw [List.map_map]; rfl
theorem ix_nat {n j : Nat} (hj : j < n) : ixN n (j : Int) = some j := by
  unfold ixN
  rw [if_pos (by omega), if_pos (by omega), Int.toNat_natCast]
def RowsAt (H : Hp) (g : Addr) (M : Nat → Nat → Int) (n : Nat) : Prop := ∃ rs : List Addr, H g = some (.lst (rs.map V.ref)) ∧ rs.length = n ∧ ∀ a r, rs[a]? = some r → H r = some (.lst (rowV n (M a)))
/-- the rows stand apart, they may be written -/
def GridAt (H0 H : Hp) (g : Addr) (M : Nat → Nat → Int) (n : Nat) : Prop := ∃ rs : List Addr, H g = some (.lst (rs.map V.ref)) ∧ rs.length = n ∧ rs.Nodup ∧ (g ∉ rs ∧ ∀ r ∈ rs, H0 r = none) ∧ ∀ a r, rs[a]? = some r → H r = some (.lst (rowV n (M a)))
theorem GridAt.rows {H0 H : Hp} {g : Addr} {M : Nat → Nat → Int} {n : Nat} (h : GridAt H0 H g M n) : RowsAt H g M n := by
  obtain ⟨rs, h1, h2, _, _, h5⟩ := h
  exact ⟨rs, h1, h2, h5⟩
theorem RowsAt.same {H H' : Hp} {g : Addr} {M : Nat → Nat → Int} {n : Nat} (e : Same H H') (h : RowsAt H g M n) : RowsAt H' g M n := by
  obtain ⟨rs, h1, h2, h3⟩ := h
  exact ⟨rs, e _ _ h1, h2, fun a r h => e _ _ (h3 a r h)⟩
theorem RowsAt.congr {H : Hp} {g : Addr} {M M' : Nat → Nat → Int} {n : Nat} (e : ∀ a b, a < n → b < n → M a b = M' a b) (h : RowsAt H g M n) : RowsAt H g M' n := by
  obtain ⟨rs, h1, h2, h3⟩ := h
  refine ⟨rs, h1, h2, fun a r ha => ?_⟩
  rw [h3 a r ha]
  have : a < n := by rw [← h2]; exact (List.getElem?_eq_some_iff.mp ha).1
  rw [rowV_congr fun b hb => e a b this hb]
theorem GridAt.congr {H0 H : Hp} {g : Addr} {M M' : Nat → Nat → Int} {n : Nat} (e : ∀ a b, a < n → b < n → M a b = M' a b) (h : GridAt H0 H g M n) : GridAt H0 H g M' n := by
  obtain ⟨rs, h1, h2, h3, h4, h5⟩ := h
  refine ⟨rs, h1, h2, h3, h4, fun a r ha => ?_⟩
  rw [h5 a r ha]
  have : a < n := by rw [← h2]; exact (List.getElem?_eq_some_iff.mp ha).1
  rw [rowV_congr fun b hb => e a b this hb]
/-- one cell looked at -/
theorem RowsAt.get {H : Hp} {g : Addr} {M : Nat → Nat → Int} {n a b : Nat} (h : RowsAt H g M n) (ha : a < n) (hb : b < n) : ∃ (rs : List Addr) (r : Addr), H g = some (.lst (rs.map V.ref)) ∧ (rs.map V.ref)[a]? = some (V.ref r) ∧ H r = some (.lst (rowV n (M a))) ∧ (rowV n (M a))[b]? = some (V.int (M a b)) := by
  obtain ⟨rs, h1, h2, h3⟩ := h
  obtain ⟨r, hr⟩ : ∃ r, rs[a]? = some r := ⟨rs[a], List.getElem?_eq_getElem (by omega)⟩
  exact ⟨rs, r, h1, by rw [List.getElem?_map, hr]; rfl, h3 a r hr, rowV_get hb⟩
/-- one cell written -/
theorem GridAt.put {H0 H : Hp} {g : Addr} {M : Nat → Nat → Int} {n a b : Nat} (v : Int) (h : GridAt H0 H g M n) (ha : a < n) (hb : b < n) : ∃ (rs : List Addr) (r : Addr), H g = some (.lst (rs.map V.ref)) ∧ (rs.map V.ref)[a]? = some (V.ref r) ∧ H r = some (.lst (rowV n (M a))) ∧
    H0 r = none ∧ GridAt H0 (upd H r (.lst ((rowV n (M a)).set b (.int v)))) g (fun x y => if x = a ∧ y = b then v else M x y) n := by
  obtain ⟨rs, h1, h2, h3, h4, h5⟩ := h
  obtain ⟨r, hr⟩ : ∃ r, rs[a]? = some r := ⟨rs[a], List.getElem?_eq_getElem (by omega)⟩
  refine ⟨rs, r, h1, by rw [List.getElem?_map, hr]; rfl, h5 a r hr, h4.2 r (List.mem_of_getElem? hr), rs, ?_, h2, h3, h4, fun x q hq => ?_⟩
  · rw [upd_ne fun z => h4.1 (by rw [z]; exact List.mem_of_getElem? hr)]
    exact h1
  · by_cases e : x = a
    · subst e
      rw [hr] at hq
      cases hq
      rw [upd_same, rowV_set]
      congr 2
      refine rowV_congr fun y _ => ?_
      by_cases e : y = b
      · simp only [e, and_self, if_true]
      · simp only [e, and_false, if_false]
    · have : q ≠ r := fun z => e (by rw [z] at hq; exact nd_ix h3 hq hr)
      rw [upd_ne this, h5 x q hq]
      congr 2
      refine rowV_congr fun y _ => ?_
      simp only [e, false_and, if_false]
end L2
end
section
set_option maxRecDepth 100000
set_option maxHeartbeats 4000000
namespace K05
open PySem PySem.Spec PyProof.Rows L2
/-- a ditch: none is wide -/
def hV : Option Int → V
  | none => .non
  | some n => .int n
theorem nn_none : (!decide (hV none = V.non)) = false := by simp [hV]
theorem nn_some {n : Int} : (!decide (hV (some n) = V.non)) = true := by simp [hV]
theorem in_none : decide (hV none = V.non) = true := by simp [hV]
theorem in_some {n : Int} : decide (hV (some n) = V.non) = false := by simp [hV]
section
variable {P : Program} {w : World} {K : PySem.W.Frag} {mg : Str → Option Value} {base : Heap}
def spDitch (K : PySem.W.Frag) : Sp := fun vs H Q E => ∃ h, vs = [hV h] ∧ ((∀ n, h = some n → n ≤ 10 ^ 12) → Q .non H) ∧ (∀ n, h = some n → 10 ^ 12 < n → Rz E H (cTM K) "what" (.str "cans"))
theorem ok_check_ditch (T : Txt w K mg) : Ok P w K mg base (L2.CX P w) 5 "check_ditch" ["ditch"] (spDitch K) := by
  refine Ok.defX (f_check_ditch T) (fun _ _ _ _ _ _ us hl => match us, hl with | [_], _ => rfl) sc_check_ditch (fun vs H Q E h => ?_) (fun f cdv A outer s H vs Q E hr h tk => ?_)
  · obtain ⟨h, rfl, _⟩ := h
    rfl
  · obtain ⟨h, rfl, k1, k2⟩ := h
    refine ⟨_, (pss_one (ps_if (pt_cmpR op_notN (pv 0) pe_non (nomark _)) (pss_one (ps_expr (pe_okS (ok_check T) (hr.mono (by first | decide | omega)) rfl (fun σ => passAt tk σ) (pa_cons pe_str (pa_cons (pv 0) pa_nil))))) pss_nil)), ?_⟩
    cases h with
    | none =>
      refine ⟨_, rfl, rfl, _, rfl, ?_⟩
      rw [nn_none]
      exact iteF (k1 fun n e => by cases e)
    | some n =>
      refine ⟨_, rfl, rfl, _, rfl, ?_⟩
      rw [nn_some]
      exact iteT ⟨_, rfl, "cans", n, 10 ^ 12, rfl, lim_cans, fun c => k1 fun m e => by cases e; exact c, fun c => k2 n rfl c⟩
def spSign (K : PySem.W.Frag) : Sp := fun vs H Q E => ∃ h, vs = [hV h] ∧ ((∀ n, h = some n → 0 ≤ n) → Q .non H) ∧ (∀ n, h = some n → n < 0 → Rz E H (cBS K) "what" (.str "ditch"))
theorem ok_check_ditch_sign (T : Txt w K mg) : Ok P w K mg base (L2.CX P w) 4 "check_ditch_sign" ["ditch"] (spSign K) := by
  refine Ok.defX (f_check_ditch_sign T) (fun _ _ _ _ _ _ us hl => match us, hl with | [_], _ => rfl) sc_check_ditch_sign (fun vs H Q E h => ?_) (fun f cdv A outer s H vs Q E hr h tk => ?_)
  · obtain ⟨h, rfl, _⟩ := h
    rfl
  · obtain ⟨h, rfl, k1, k2⟩ := h
    refine ⟨_, (pss_one (ps_if (PW.pt (pw_and (pt_cmpR op_notN (pv 0) pe_non (nomark _)) (pw_and1 (pt_cmpR op_lt (pv 0) pe_int (nomark _))))) (pss_one (ps_raise rfl tk (pmk_x (x_BadSetting T) (hr.mono (by first | decide | omega)) rfl (pa_cons pe_str pa_nil)))) pss_nil)), ?_⟩
    cases h with
    | none =>
      refine ⟨_, rfl, rfl, _, rfl, ?_⟩
      rw [nn_none]
      exact iteF (k1 fun n e => by cases e)
    | some n =>
      refine ⟨_, rfl, rfl, _, rfl, ?_⟩
      rw [nn_some]
      refine iteT ⟨_, rfl, _, _, rfl, rfl, _, rfl, ite2 (fun c => ?_) (fun c => ?_)⟩
      · exact mko ((k2 n rfl (of_decide_eq_true c)).at (Same.refl H))
      · exact k1 fun m e => by cases e; simpa using c
end
end K05
end
section
set_option maxRecDepth 100000
set_option maxHeartbeats 4000000
namespace L2
open PySem PySem.Spec PyProof.Rows
/-! ### the handled exception asked for one of several classes -/
section
variable {X : Cx} {p : Addr × Obj} {d : Option Addr} {D : Addr}
def rIsDT (K : PySem.W.Frag) (D a d : Addr) : List V → Hp → VK → Prop := fun xs H Q => ∃ (tp : Addr) (cs : List V) (us : List Value) (b : Bool) (fs : List (Str × V)), xs = [.ref a, .ref tp] ∧ H tp = some (.tup cs) ∧ Paired ClsV cs us ∧ H d = some (.xd fs) ∧ PySem.W.kitAny K (.ref D) us = some b ∧ Q (.bl b) H
theorem call_isDT {d : Addr} (hp : p ∈ X.pn) (T : ExcC X.K D) (hz : Zc (.ref D) (some d) p.2) (hf : ∃ vs, p.2.data = .fields vs) : CallR X (.builtin "isinstance") (rIsDT X.K D p.1 d) := by
  intro pins s σ H xs us Q I r h
  obtain ⟨tp, cs, ws, b, fs, rfl, hT, k, hd, hk, q⟩ := h
  obtain ⟨u1, u2, rfl, r1, r2⟩ := vals2 r
  obtain rfl : u1 = Value.ref p.1 := r1
  obtain rfl : u2 = Value.ref tp := r2
  obtain ⟨mA, hns, _⟩ := (show ObjOk X.prog X.w H s.heap d (.xd fs) from I.hok d _ hd)
  obtain ⟨od, hod, _⟩ := lookIn_ns hns
  obtain ⟨vs, hdat⟩ := hf
  have at_ : PySem.W.InstAt s.heap p.1 p.2 D (some od) := ⟨(I.pin p (List.mem_append_left _ hp)).1, hz.1, by unfold PySem.W.notCls; rw [hdat] <;> rfl, by rw [hz.2]; exact hod⟩
  obtain ⟨cd, hc, _⟩ := PySem.W.any_some T.hd
  obtain ⟨_, its, rv, o, h1, h2, n, h3⟩ := (show ObjOk X.prog X.w H s.heap tp (.tup cs) from I.hok tp _ hT)
  have e3 := ClsV.all k rv
  subst e3
  obtain ⟨oc, odd, dt, sl⟩ := o
  simp only at h2 h3
  subst h2 h3
  exact PySem.W.kia_tup (PySem.W.kitx_exc (gt := none) (by rw [hc]; rfl) T.hg T.hk T.hs T.ha T.hn T.ht T.hm) I.kIn at_ h1 hk (fun z => nomatch z) fun tk => ⟨.bl b, H, I.tok tk, rfl, q⟩
end
end L2
end
section
set_option maxRecDepth 100000
set_option maxHeartbeats 4000000
namespace K05
open PySem PySem.Spec PyProof.Rows L2
theorem app1 {H H1 : Hp} {a t : Addr} {xs : List V} (s : Same H H1) (ha : H a = none) (hF : H1 a = some (.lst [])) (hT : H1 t = some (.tup xs)) : ∃ H2, H2 = upd H1 a (.lst ([] ++ [V.ref t])) ∧ Same H H2 ∧ H2 t = some (.tup xs) ∧ H2 a = some (.lst [V.ref t]) :=
  ⟨_, rfl, same_mut s ha, by rw [upd_ne fun z => by rw [z, hF] at hT; cases hT]; exact hT, upd_same⟩
theorem kany_f {K : PySem.W.Frag} {t c : Value} {l : List Value} (h : PySem.W.kitOne K t c = some false) (r : PySem.W.kitAny K t l = some false) : PySem.W.kitAny K t (c :: l) = some false := by
  unfold PySem.W.kitAny
  rw [h]
  exact r
section
variable {P : Program} {w : World} {K : PySem.W.Frag} {mg : Str → Option Value} {base : Heap}
theorem body_TooMany (T : Txt w K mg) {A : Around} {outer : List Env} {s : Shared} {H : Hp} {Q : VK} {p : Addr × Obj} {d : Addr} {v : V} {f : Addr} {cdv : Value} (hz : Zc (.ref (cTM K)) (some d) p.2) (hf : ∃ vs, p.2.data = .fields vs)
    (hd : H d = some (.xd [("what", v)])) (q : ∀ l t H', Same H H' → H' t = some (.tup [.str "TooMany", v]) → H' l = some (.lst [.ref t]) → Q (.ref l) H') :
    ∃ t, PSs (L2H.cxH CX0 P w K mg base ["error", "found"] "_law_b_told" (defScope s__law_b_told) f cdv A outer s H E0 p) (defBody s__law_b_told) t ∧ t { nx := fun _ H' => Q .non H', rt := Q } (L2.start ["error", "found"] [.ref p.1]) H := by
  refine ⟨_, (pss_cons (ps_set (i := 1) sc__law_b_told.nd rfl (by first | exact Or.inl rfl | exact Or.inr rfl) (pe_lst pa_nil))
      (pss_cons (ps_if (pt_val (pe_callB (call_isD (p := p) (D := cTM K) (d := d) List.mem_cons_self (xt_TooMany T).exc hz hf) rfl (n_isinstance T) (by decide +kernel) (pa_cons (pv 0) (pa_cons (pe_glob (v := .ref _) rfl (g_TooMany T) rfl) pa_nil)))) (pss_one (ps_expr (pe_bm PySem.F.plainAttrs_list PySem.F.slot_list_append PySem.F.type_list_append mt_append (pv 1) (pa_cons (pe_tup (pa_cons pe_str (pa_cons (pe_xfG (p := p) (C := cTM K) List.mem_cons_self (xt_TooMany T).xf (xn_TooMany_what T) hz hf (pv 0)) pa_nil))) pa_nil)))) pss_nil)
      (pss_cons (ps_if (pt_val (pe_callB (call_isD (p := p) (D := cTM K) (d := d) List.mem_cons_self (xt_TooMany T).exc hz hf) rfl (n_isinstance T) (by decide +kernel) (pa_cons (pv 0) (pa_cons (pe_glob (v := .ref _) rfl (g_BadSky T) rfl) pa_nil)))) (pss_one (ps_expr (pe_bm PySem.F.plainAttrs_list PySem.F.slot_list_append PySem.F.type_list_append mt_append (pv 1) (pa_cons (pe_tup (pa_cons pe_str (pa_cons pe_noway pa_nil))) pa_nil)))) pss_nil)
      (pss_cons (ps_if (pt_val (pe_callB (call_isD (p := p) (D := cTM K) (d := d) List.mem_cons_self (xt_TooMany T).exc hz hf) rfl (n_isinstance T) (by decide +kernel) (pa_cons (pv 0) (pa_cons (pe_glob (v := .ref _) rfl (g_BadWeather T) rfl) pa_nil)))) (pss_one (ps_expr (pe_bm PySem.F.plainAttrs_list PySem.F.slot_list_append PySem.F.type_list_append mt_append (pv 1) (pa_cons (pe_tup (pa_cons pe_str (pa_cons pe_noway pa_nil))) pa_nil)))) pss_nil)
      (pss_cons (ps_if (pt_val (pe_callB (call_isD (p := p) (D := cTM K) (d := d) List.mem_cons_self (xt_TooMany T).exc hz hf) rfl (n_isinstance T) (by decide +kernel) (pa_cons (pv 0) (pa_cons (pe_glob (v := .ref _) rfl (g_BadReport T) rfl) pa_nil)))) (pss_one (ps_expr (pe_bm PySem.F.plainAttrs_list PySem.F.slot_list_append PySem.F.type_list_append mt_append (pv 1) (pa_cons (pe_tup (pa_cons pe_str (pa_cons pe_noway pa_nil))) pa_nil)))) pss_nil)
      (pss_cons (ps_if (pt_val (pe_callB (call_isD (p := p) (D := cTM K) (d := d) List.mem_cons_self (xt_TooMany T).exc hz hf) rfl (n_isinstance T) (by decide +kernel) (pa_cons (pv 0) (pa_cons (pe_glob (v := .ref _) rfl (g_BadGarden T) rfl) pa_nil)))) (pss_one (ps_expr (pe_bm PySem.F.plainAttrs_list PySem.F.slot_list_append PySem.F.type_list_append mt_append (pv 1) (pa_cons (pe_tup (pa_cons pe_str (pa_cons pe_noway pa_nil))) pa_nil)))) pss_nil)
      (pss_cons (ps_if (pt_val (pe_callB (call_isD (p := p) (D := cTM K) (d := d) List.mem_cons_self (xt_TooMany T).exc hz hf) rfl (n_isinstance T) (by decide +kernel) (pa_cons (pv 0) (pa_cons (pe_glob (v := .ref _) rfl (g_BadSetting T) rfl) pa_nil)))) (pss_one (ps_expr (pe_bm PySem.F.plainAttrs_list PySem.F.slot_list_append PySem.F.type_list_append mt_append (pv 1) (pa_cons (pe_tup (pa_cons pe_str (pa_cons (pe_xfG (p := p) (C := cTM K) List.mem_cons_self (xt_TooMany T).xf (xn_TooMany_what T) hz hf (pv 0)) pa_nil))) pa_nil)))) pss_nil)
      (pss_cons (ps_if (pt_val (pe_callB (call_isD (p := p) (D := cTM K) (d := d) List.mem_cons_self (xt_TooMany T).exc hz hf) rfl (n_isinstance T) (by decide +kernel) (pa_cons (pv 0) (pa_cons (pe_glob (v := .ref _) rfl (g_BadHouse T) rfl) pa_nil)))) (pss_one (ps_expr (pe_bm PySem.F.plainAttrs_list PySem.F.slot_list_append PySem.F.type_list_append mt_append (pv 1) (pa_cons (pe_tup (pa_cons pe_str (pa_cons pe_noway pa_nil))) pa_nil)))) pss_nil)
      (pss_cons (ps_if (pt_val (pe_callB (call_isD (p := p) (D := cTM K) (d := d) List.mem_cons_self (xt_TooMany T).exc hz hf) rfl (n_isinstance T) (by decide +kernel) (pa_cons (pv 0) (pa_cons (pe_glob (v := .ref _) rfl (g_BadDay T) rfl) pa_nil)))) (pss_one (ps_expr (pe_bm PySem.F.plainAttrs_list PySem.F.slot_list_append PySem.F.type_list_append mt_append (pv 1) (pa_cons (pe_tup (pa_cons pe_str (pa_cons pe_noway pa_nil))) pa_nil)))) pss_nil)
      (pss_cons (ps_if (pt_val (pe_callB (call_isD (p := p) (D := cTM K) (d := d) List.mem_cons_self (xt_TooMany T).exc hz hf) rfl (n_isinstance T) (by decide +kernel) (pa_cons (pv 0) (pa_cons (pe_glob (v := .ref _) rfl (g_BadText T) rfl) pa_nil)))) (pss_one (ps_expr (pe_bm PySem.F.plainAttrs_list PySem.F.slot_list_append PySem.F.type_list_append mt_append (pv 1) (pa_cons (pe_tup (pa_cons pe_str (pa_cons pe_noway pa_nil))) pa_nil)))) pss_nil)
      (pss_cons (ps_if (pt_val (pe_callB (call_isD (p := p) (D := cTM K) (d := d) List.mem_cons_self (xt_TooMany T).exc hz hf) rfl (n_isinstance T) (by decide +kernel) (pa_cons (pv 0) (pa_cons (pe_glob (v := .ref _) rfl (g_NotKept T) rfl) pa_nil)))) (pss_one (ps_expr (pe_bm PySem.F.plainAttrs_list PySem.F.slot_list_append PySem.F.type_list_append mt_append (pv 1) (pa_cons (pe_tup (pa_cons pe_str (pa_cons pe_noway (pa_cons pe_noway pa_nil)))) pa_nil)))) pss_nil)
      (pss_cons (ps_if (pt_val (pe_callB (call_isD (p := p) (D := cTM K) (d := d) List.mem_cons_self (xt_TooMany T).exc hz hf) rfl (n_isinstance T) (by decide +kernel) (pa_cons (pv 0) (pa_cons (pe_glob (v := .ref _) rfl (g_Unsafe T) rfl) pa_nil)))) (pss_one (ps_expr (pe_bm PySem.F.plainAttrs_list PySem.F.slot_list_append PySem.F.type_list_append mt_append (pv 1) (pa_cons (pe_tup (pa_cons pe_str (pa_cons pe_noway (pa_cons pe_noway pa_nil)))) pa_nil)))) pss_nil)
      (pss_cons (ps_if (pt_val (pe_callB (call_isDT (p := p) (D := cTM K) (d := d) List.mem_cons_self (xt_TooMany T).exc hz hf) rfl (n_isinstance T) (by decide +kernel) (pa_cons (pv 0) (pa_cons (pe_tup (pa_cons (pe_glob (v := .ref _) rfl (g_BadCalls T) rfl) (pa_cons (pe_glob (v := .ref _) rfl (g_BadOffers T) rfl) (pa_cons (pe_glob (v := .ref _) rfl (g_BadTable T) rfl) (pa_cons (pe_glob (v := .ref _) rfl (g_BadRow T) rfl) (pa_cons (pe_glob (v := .ref _) rfl (g_BadCalendar T) rfl) (pa_cons (pe_glob (v := .ref _) rfl (g_BadDeed T) rfl) pa_nil))))))) pa_nil)))) (pss_one (ps_expr (pe_bm PySem.F.plainAttrs_list PySem.F.slot_list_append PySem.F.type_list_append mt_append (pv 1) (pa_cons (pe_tup (pa_cons pe_str pa_nil)) pa_nil)))) pss_nil)
      (pss_one (ps_ret (pe_ifExp (pt_val (pe_callB (call_isD (p := p) (D := cTM K) (d := d) List.mem_cons_self (xt_TooMany T).exc hz hf) rfl (n_isinstance T) (by decide +kernel) (pa_cons (pv 0) (pa_cons (pe_bltn (v := .ty "ValueError") (u := .type "ValueError") rfl (n_ValueError T) (by decide +kernel) rfl) pa_nil)))) (pv 1) (pe_lst pa_nil))))))))))))))))), ?_⟩

  refine ⟨(by show 0 ≤ sizeLine; decide), fun a ha => ?_⟩
  obtain ⟨h0, hF⟩ := new2 (.lst []) ha
  refine ⟨_, rfl, _, _, true, _, rfl, (fun u e => e), h0 _ _ hd, xk_TooMany_TooMany T, _, rfl, iteT ?_⟩
  refine ⟨_, rfl, .inl ⟨rfl, _, SqL.of hF⟩, _, rfl, rfl, rfl, d, _, v, rfl, h0 _ _ hd, rfl, (by show 2 ≤ sizeLine; decide), fun t ht => ?_⟩
  obtain ⟨hA, hT⟩ := new2 (.tup [.str "TooMany", v]) ht
  have hF := hA _ _ hF
  have h1 := h0.trans hA
  refine ⟨a, [], _, rfl, rfl, hF, (by show 0 < sizeLine; decide), ?_⟩
  obtain ⟨H2, eH, h2, hT, hF⟩ := app1 h1 ha hF hT
  rw [← eH]
  clear hA eH
  refine ⟨_, rfl, _, _, false, _, rfl, (fun u e => e), h2 _ _ hd, xk_TooMany_BadSky T, _, rfl, iteF ?_⟩
  refine ⟨_, rfl, _, _, false, _, rfl, (fun u e => e), h2 _ _ hd, xk_TooMany_BadWeather T, _, rfl, iteF ?_⟩
  refine ⟨_, rfl, _, _, false, _, rfl, (fun u e => e), h2 _ _ hd, xk_TooMany_BadReport T, _, rfl, iteF ?_⟩
  refine ⟨_, rfl, _, _, false, _, rfl, (fun u e => e), h2 _ _ hd, xk_TooMany_BadGarden T, _, rfl, iteF ?_⟩
  refine ⟨_, rfl, _, _, false, _, rfl, (fun u e => e), h2 _ _ hd, xk_TooMany_BadSetting T, _, rfl, iteF ?_⟩
  refine ⟨_, rfl, _, _, false, _, rfl, (fun u e => e), h2 _ _ hd, xk_TooMany_BadHouse T, _, rfl, iteF ?_⟩
  refine ⟨_, rfl, _, _, false, _, rfl, (fun u e => e), h2 _ _ hd, xk_TooMany_BadDay T, _, rfl, iteF ?_⟩
  refine ⟨_, rfl, _, _, false, _, rfl, (fun u e => e), h2 _ _ hd, xk_TooMany_BadText T, _, rfl, iteF ?_⟩
  refine ⟨_, rfl, _, _, false, _, rfl, (fun u e => e), h2 _ _ hd, xk_TooMany_NotKept T, _, rfl, iteF ?_⟩
  refine ⟨_, rfl, _, _, false, _, rfl, (fun u e => e), h2 _ _ hd, xk_TooMany_Unsafe T, _, rfl, iteF ?_⟩
  refine ⟨_, rfl, (by show 6 ≤ sizeLine; decide), fun tp htp => ?_⟩
  obtain ⟨hA, hTp⟩ := new2 (.tup [V.ref (He.ga K "BadCalls"), V.ref (He.ga K "BadOffers"), V.ref (He.ga K "BadTable"), V.ref (He.ga K "BadRow"), V.ref (He.ga K "BadCalendar"), V.ref (He.ga K "BadDeed")]) htp
  have hT := hA _ _ hT
  have hF := hA _ _ hF
  have h3 := h2.trans hA
  refine ⟨tp, _, _, false, _, rfl, hTp, (.cons (.own _) (.cons (.own _) (.cons (.own _) (.cons (.own _) (.cons (.own _) (.cons (.own _) .nil)))))), h3 _ _ hd, (kany_f (xk_TooMany_BadCalls T) (kany_f (xk_TooMany_BadOffers T) (kany_f (xk_TooMany_BadTable T) (kany_f (xk_TooMany_BadRow T) (kany_f (xk_TooMany_BadCalendar T) (kany_f (xk_TooMany_BadDeed T) rfl)))))), _, rfl, iteF ?_⟩
  refine ⟨_, rfl, _, _, true, _, rfl, (fun u e => e), h3 _ _ hd, xv_TooMany T, _, rfl, iteT ⟨_, rfl, ?_⟩⟩
  exact q _ _ _ h3 hT hF

theorem body_BadDay (T : Txt w K mg) {A : Around} {outer : List Env} {s : Shared} {H : Hp} {Q : VK} {p : Addr × Obj} {d : Addr} {v : V} {f : Addr} {cdv : Value} (hz : Zc (.ref (cBD K)) (some d) p.2) (hf : ∃ vs, p.2.data = .fields vs)
    (hd : H d = some (.xd [("day", v)])) (q : ∀ l t H', Same H H' → H' t = some (.tup [.str "BadDay", v]) → H' l = some (.lst [.ref t]) → Q (.ref l) H') :
    ∃ t, PSs (L2H.cxH CX0 P w K mg base ["error", "found"] "_law_b_told" (defScope s__law_b_told) f cdv A outer s H E0 p) (defBody s__law_b_told) t ∧ t { nx := fun _ H' => Q .non H', rt := Q } (L2.start ["error", "found"] [.ref p.1]) H := by
  refine ⟨_, (pss_cons (ps_set (i := 1) sc__law_b_told.nd rfl (by first | exact Or.inl rfl | exact Or.inr rfl) (pe_lst pa_nil))
      (pss_cons (ps_if (pt_val (pe_callB (call_isD (p := p) (D := cBD K) (d := d) List.mem_cons_self (xt_BadDay T).exc hz hf) rfl (n_isinstance T) (by decide +kernel) (pa_cons (pv 0) (pa_cons (pe_glob (v := .ref _) rfl (g_TooMany T) rfl) pa_nil)))) (pss_one (ps_expr (pe_bm PySem.F.plainAttrs_list PySem.F.slot_list_append PySem.F.type_list_append mt_append (pv 1) (pa_cons (pe_tup (pa_cons pe_str (pa_cons pe_noway pa_nil))) pa_nil)))) pss_nil)
      (pss_cons (ps_if (pt_val (pe_callB (call_isD (p := p) (D := cBD K) (d := d) List.mem_cons_self (xt_BadDay T).exc hz hf) rfl (n_isinstance T) (by decide +kernel) (pa_cons (pv 0) (pa_cons (pe_glob (v := .ref _) rfl (g_BadSky T) rfl) pa_nil)))) (pss_one (ps_expr (pe_bm PySem.F.plainAttrs_list PySem.F.slot_list_append PySem.F.type_list_append mt_append (pv 1) (pa_cons (pe_tup (pa_cons pe_str (pa_cons pe_noway pa_nil))) pa_nil)))) pss_nil)
      (pss_cons (ps_if (pt_val (pe_callB (call_isD (p := p) (D := cBD K) (d := d) List.mem_cons_self (xt_BadDay T).exc hz hf) rfl (n_isinstance T) (by decide +kernel) (pa_cons (pv 0) (pa_cons (pe_glob (v := .ref _) rfl (g_BadWeather T) rfl) pa_nil)))) (pss_one (ps_expr (pe_bm PySem.F.plainAttrs_list PySem.F.slot_list_append PySem.F.type_list_append mt_append (pv 1) (pa_cons (pe_tup (pa_cons pe_str (pa_cons (pe_xfG (p := p) (C := cBD K) List.mem_cons_self (xt_BadDay T).xf (xn_BadDay_day T) hz hf (pv 0)) pa_nil))) pa_nil)))) pss_nil)
      (pss_cons (ps_if (pt_val (pe_callB (call_isD (p := p) (D := cBD K) (d := d) List.mem_cons_self (xt_BadDay T).exc hz hf) rfl (n_isinstance T) (by decide +kernel) (pa_cons (pv 0) (pa_cons (pe_glob (v := .ref _) rfl (g_BadReport T) rfl) pa_nil)))) (pss_one (ps_expr (pe_bm PySem.F.plainAttrs_list PySem.F.slot_list_append PySem.F.type_list_append mt_append (pv 1) (pa_cons (pe_tup (pa_cons pe_str (pa_cons (pe_xfG (p := p) (C := cBD K) List.mem_cons_self (xt_BadDay T).xf (xn_BadDay_day T) hz hf (pv 0)) pa_nil))) pa_nil)))) pss_nil)
      (pss_cons (ps_if (pt_val (pe_callB (call_isD (p := p) (D := cBD K) (d := d) List.mem_cons_self (xt_BadDay T).exc hz hf) rfl (n_isinstance T) (by decide +kernel) (pa_cons (pv 0) (pa_cons (pe_glob (v := .ref _) rfl (g_BadGarden T) rfl) pa_nil)))) (pss_one (ps_expr (pe_bm PySem.F.plainAttrs_list PySem.F.slot_list_append PySem.F.type_list_append mt_append (pv 1) (pa_cons (pe_tup (pa_cons pe_str (pa_cons pe_noway pa_nil))) pa_nil)))) pss_nil)
      (pss_cons (ps_if (pt_val (pe_callB (call_isD (p := p) (D := cBD K) (d := d) List.mem_cons_self (xt_BadDay T).exc hz hf) rfl (n_isinstance T) (by decide +kernel) (pa_cons (pv 0) (pa_cons (pe_glob (v := .ref _) rfl (g_BadSetting T) rfl) pa_nil)))) (pss_one (ps_expr (pe_bm PySem.F.plainAttrs_list PySem.F.slot_list_append PySem.F.type_list_append mt_append (pv 1) (pa_cons (pe_tup (pa_cons pe_str (pa_cons pe_noway pa_nil))) pa_nil)))) pss_nil)
      (pss_cons (ps_if (pt_val (pe_callB (call_isD (p := p) (D := cBD K) (d := d) List.mem_cons_self (xt_BadDay T).exc hz hf) rfl (n_isinstance T) (by decide +kernel) (pa_cons (pv 0) (pa_cons (pe_glob (v := .ref _) rfl (g_BadHouse T) rfl) pa_nil)))) (pss_one (ps_expr (pe_bm PySem.F.plainAttrs_list PySem.F.slot_list_append PySem.F.type_list_append mt_append (pv 1) (pa_cons (pe_tup (pa_cons pe_str (pa_cons pe_noway pa_nil))) pa_nil)))) pss_nil)
      (pss_cons (ps_if (pt_val (pe_callB (call_isD (p := p) (D := cBD K) (d := d) List.mem_cons_self (xt_BadDay T).exc hz hf) rfl (n_isinstance T) (by decide +kernel) (pa_cons (pv 0) (pa_cons (pe_glob (v := .ref _) rfl (g_BadDay T) rfl) pa_nil)))) (pss_one (ps_expr (pe_bm PySem.F.plainAttrs_list PySem.F.slot_list_append PySem.F.type_list_append mt_append (pv 1) (pa_cons (pe_tup (pa_cons pe_str (pa_cons (pe_xfG (p := p) (C := cBD K) List.mem_cons_self (xt_BadDay T).xf (xn_BadDay_day T) hz hf (pv 0)) pa_nil))) pa_nil)))) pss_nil)
      (pss_cons (ps_if (pt_val (pe_callB (call_isD (p := p) (D := cBD K) (d := d) List.mem_cons_self (xt_BadDay T).exc hz hf) rfl (n_isinstance T) (by decide +kernel) (pa_cons (pv 0) (pa_cons (pe_glob (v := .ref _) rfl (g_BadText T) rfl) pa_nil)))) (pss_one (ps_expr (pe_bm PySem.F.plainAttrs_list PySem.F.slot_list_append PySem.F.type_list_append mt_append (pv 1) (pa_cons (pe_tup (pa_cons pe_str (pa_cons pe_noway pa_nil))) pa_nil)))) pss_nil)
      (pss_cons (ps_if (pt_val (pe_callB (call_isD (p := p) (D := cBD K) (d := d) List.mem_cons_self (xt_BadDay T).exc hz hf) rfl (n_isinstance T) (by decide +kernel) (pa_cons (pv 0) (pa_cons (pe_glob (v := .ref _) rfl (g_NotKept T) rfl) pa_nil)))) (pss_one (ps_expr (pe_bm PySem.F.plainAttrs_list PySem.F.slot_list_append PySem.F.type_list_append mt_append (pv 1) (pa_cons (pe_tup (pa_cons pe_str (pa_cons pe_noway (pa_cons (pe_xfG (p := p) (C := cBD K) List.mem_cons_self (xt_BadDay T).xf (xn_BadDay_day T) hz hf (pv 0)) pa_nil)))) pa_nil)))) pss_nil)
      (pss_cons (ps_if (pt_val (pe_callB (call_isD (p := p) (D := cBD K) (d := d) List.mem_cons_self (xt_BadDay T).exc hz hf) rfl (n_isinstance T) (by decide +kernel) (pa_cons (pv 0) (pa_cons (pe_glob (v := .ref _) rfl (g_Unsafe T) rfl) pa_nil)))) (pss_one (ps_expr (pe_bm PySem.F.plainAttrs_list PySem.F.slot_list_append PySem.F.type_list_append mt_append (pv 1) (pa_cons (pe_tup (pa_cons pe_str (pa_cons pe_noway (pa_cons (pe_xfG (p := p) (C := cBD K) List.mem_cons_self (xt_BadDay T).xf (xn_BadDay_day T) hz hf (pv 0)) pa_nil)))) pa_nil)))) pss_nil)
      (pss_cons (ps_if (pt_val (pe_callB (call_isDT (p := p) (D := cBD K) (d := d) List.mem_cons_self (xt_BadDay T).exc hz hf) rfl (n_isinstance T) (by decide +kernel) (pa_cons (pv 0) (pa_cons (pe_tup (pa_cons (pe_glob (v := .ref _) rfl (g_BadCalls T) rfl) (pa_cons (pe_glob (v := .ref _) rfl (g_BadOffers T) rfl) (pa_cons (pe_glob (v := .ref _) rfl (g_BadTable T) rfl) (pa_cons (pe_glob (v := .ref _) rfl (g_BadRow T) rfl) (pa_cons (pe_glob (v := .ref _) rfl (g_BadCalendar T) rfl) (pa_cons (pe_glob (v := .ref _) rfl (g_BadDeed T) rfl) pa_nil))))))) pa_nil)))) (pss_one (ps_expr (pe_bm PySem.F.plainAttrs_list PySem.F.slot_list_append PySem.F.type_list_append mt_append (pv 1) (pa_cons (pe_tup (pa_cons pe_str pa_nil)) pa_nil)))) pss_nil)
      (pss_one (ps_ret (pe_ifExp (pt_val (pe_callB (call_isD (p := p) (D := cBD K) (d := d) List.mem_cons_self (xt_BadDay T).exc hz hf) rfl (n_isinstance T) (by decide +kernel) (pa_cons (pv 0) (pa_cons (pe_bltn (v := .ty "ValueError") (u := .type "ValueError") rfl (n_ValueError T) (by decide +kernel) rfl) pa_nil)))) (pv 1) (pe_lst pa_nil))))))))))))))))), ?_⟩

  refine ⟨(by show 0 ≤ sizeLine; decide), fun a ha => ?_⟩
  obtain ⟨h0, hF⟩ := new2 (.lst []) ha
  refine ⟨_, rfl, _, _, false, _, rfl, (fun u e => e), h0 _ _ hd, xk_BadDay_TooMany T, _, rfl, iteF ?_⟩
  refine ⟨_, rfl, _, _, false, _, rfl, (fun u e => e), h0 _ _ hd, xk_BadDay_BadSky T, _, rfl, iteF ?_⟩
  refine ⟨_, rfl, _, _, false, _, rfl, (fun u e => e), h0 _ _ hd, xk_BadDay_BadWeather T, _, rfl, iteF ?_⟩
  refine ⟨_, rfl, _, _, false, _, rfl, (fun u e => e), h0 _ _ hd, xk_BadDay_BadReport T, _, rfl, iteF ?_⟩
  refine ⟨_, rfl, _, _, false, _, rfl, (fun u e => e), h0 _ _ hd, xk_BadDay_BadGarden T, _, rfl, iteF ?_⟩
  refine ⟨_, rfl, _, _, false, _, rfl, (fun u e => e), h0 _ _ hd, xk_BadDay_BadSetting T, _, rfl, iteF ?_⟩
  refine ⟨_, rfl, _, _, false, _, rfl, (fun u e => e), h0 _ _ hd, xk_BadDay_BadHouse T, _, rfl, iteF ?_⟩
  refine ⟨_, rfl, _, _, true, _, rfl, (fun u e => e), h0 _ _ hd, xk_BadDay_BadDay T, _, rfl, iteT ?_⟩
  refine ⟨_, rfl, .inl ⟨rfl, _, SqL.of hF⟩, _, rfl, rfl, rfl, d, _, v, rfl, h0 _ _ hd, rfl, (by show 2 ≤ sizeLine; decide), fun t ht => ?_⟩
  obtain ⟨hA, hT⟩ := new2 (.tup [.str "BadDay", v]) ht
  have hF := hA _ _ hF
  have h1 := h0.trans hA
  refine ⟨a, [], _, rfl, rfl, hF, (by show 0 < sizeLine; decide), ?_⟩
  obtain ⟨H2, eH, h2, hT, hF⟩ := app1 h1 ha hF hT
  rw [← eH]
  clear hA eH
  refine ⟨_, rfl, _, _, false, _, rfl, (fun u e => e), h2 _ _ hd, xk_BadDay_BadText T, _, rfl, iteF ?_⟩
  refine ⟨_, rfl, _, _, false, _, rfl, (fun u e => e), h2 _ _ hd, xk_BadDay_NotKept T, _, rfl, iteF ?_⟩
  refine ⟨_, rfl, _, _, false, _, rfl, (fun u e => e), h2 _ _ hd, xk_BadDay_Unsafe T, _, rfl, iteF ?_⟩
  refine ⟨_, rfl, (by show 6 ≤ sizeLine; decide), fun tp htp => ?_⟩
  obtain ⟨hA, hTp⟩ := new2 (.tup [V.ref (He.ga K "BadCalls"), V.ref (He.ga K "BadOffers"), V.ref (He.ga K "BadTable"), V.ref (He.ga K "BadRow"), V.ref (He.ga K "BadCalendar"), V.ref (He.ga K "BadDeed")]) htp
  have hT := hA _ _ hT
  have hF := hA _ _ hF
  have h3 := h2.trans hA
  refine ⟨tp, _, _, false, _, rfl, hTp, (.cons (.own _) (.cons (.own _) (.cons (.own _) (.cons (.own _) (.cons (.own _) (.cons (.own _) .nil)))))), h3 _ _ hd, (kany_f (xk_BadDay_BadCalls T) (kany_f (xk_BadDay_BadOffers T) (kany_f (xk_BadDay_BadTable T) (kany_f (xk_BadDay_BadRow T) (kany_f (xk_BadDay_BadCalendar T) (kany_f (xk_BadDay_BadDeed T) rfl)))))), _, rfl, iteF ?_⟩
  refine ⟨_, rfl, _, _, true, _, rfl, (fun u e => e), h3 _ _ hd, xv_BadDay T, _, rfl, iteT ⟨_, rfl, ?_⟩⟩
  exact q _ _ _ h3 hT hF

theorem body_BadSetting (T : Txt w K mg) {A : Around} {outer : List Env} {s : Shared} {H : Hp} {Q : VK} {p : Addr × Obj} {d : Addr} {v : V} {f : Addr} {cdv : Value} (hz : Zc (.ref (cBS K)) (some d) p.2) (hf : ∃ vs, p.2.data = .fields vs)
    (hd : H d = some (.xd [("what", v)])) (q : ∀ l t H', Same H H' → H' t = some (.tup [.str "BadSetting", v]) → H' l = some (.lst [.ref t]) → Q (.ref l) H') :
    ∃ t, PSs (L2H.cxH CX0 P w K mg base ["error", "found"] "_law_b_told" (defScope s__law_b_told) f cdv A outer s H E0 p) (defBody s__law_b_told) t ∧ t { nx := fun _ H' => Q .non H', rt := Q } (L2.start ["error", "found"] [.ref p.1]) H := by
  refine ⟨_, (pss_cons (ps_set (i := 1) sc__law_b_told.nd rfl (by first | exact Or.inl rfl | exact Or.inr rfl) (pe_lst pa_nil))
      (pss_cons (ps_if (pt_val (pe_callB (call_isD (p := p) (D := cBS K) (d := d) List.mem_cons_self (xt_BadSetting T).exc hz hf) rfl (n_isinstance T) (by decide +kernel) (pa_cons (pv 0) (pa_cons (pe_glob (v := .ref _) rfl (g_TooMany T) rfl) pa_nil)))) (pss_one (ps_expr (pe_bm PySem.F.plainAttrs_list PySem.F.slot_list_append PySem.F.type_list_append mt_append (pv 1) (pa_cons (pe_tup (pa_cons pe_str (pa_cons (pe_xfG (p := p) (C := cBS K) List.mem_cons_self (xt_BadSetting T).xf (xn_BadSetting_what T) hz hf (pv 0)) pa_nil))) pa_nil)))) pss_nil)
      (pss_cons (ps_if (pt_val (pe_callB (call_isD (p := p) (D := cBS K) (d := d) List.mem_cons_self (xt_BadSetting T).exc hz hf) rfl (n_isinstance T) (by decide +kernel) (pa_cons (pv 0) (pa_cons (pe_glob (v := .ref _) rfl (g_BadSky T) rfl) pa_nil)))) (pss_one (ps_expr (pe_bm PySem.F.plainAttrs_list PySem.F.slot_list_append PySem.F.type_list_append mt_append (pv 1) (pa_cons (pe_tup (pa_cons pe_str (pa_cons pe_noway pa_nil))) pa_nil)))) pss_nil)
      (pss_cons (ps_if (pt_val (pe_callB (call_isD (p := p) (D := cBS K) (d := d) List.mem_cons_self (xt_BadSetting T).exc hz hf) rfl (n_isinstance T) (by decide +kernel) (pa_cons (pv 0) (pa_cons (pe_glob (v := .ref _) rfl (g_BadWeather T) rfl) pa_nil)))) (pss_one (ps_expr (pe_bm PySem.F.plainAttrs_list PySem.F.slot_list_append PySem.F.type_list_append mt_append (pv 1) (pa_cons (pe_tup (pa_cons pe_str (pa_cons pe_noway pa_nil))) pa_nil)))) pss_nil)
      (pss_cons (ps_if (pt_val (pe_callB (call_isD (p := p) (D := cBS K) (d := d) List.mem_cons_self (xt_BadSetting T).exc hz hf) rfl (n_isinstance T) (by decide +kernel) (pa_cons (pv 0) (pa_cons (pe_glob (v := .ref _) rfl (g_BadReport T) rfl) pa_nil)))) (pss_one (ps_expr (pe_bm PySem.F.plainAttrs_list PySem.F.slot_list_append PySem.F.type_list_append mt_append (pv 1) (pa_cons (pe_tup (pa_cons pe_str (pa_cons pe_noway pa_nil))) pa_nil)))) pss_nil)
      (pss_cons (ps_if (pt_val (pe_callB (call_isD (p := p) (D := cBS K) (d := d) List.mem_cons_self (xt_BadSetting T).exc hz hf) rfl (n_isinstance T) (by decide +kernel) (pa_cons (pv 0) (pa_cons (pe_glob (v := .ref _) rfl (g_BadGarden T) rfl) pa_nil)))) (pss_one (ps_expr (pe_bm PySem.F.plainAttrs_list PySem.F.slot_list_append PySem.F.type_list_append mt_append (pv 1) (pa_cons (pe_tup (pa_cons pe_str (pa_cons pe_noway pa_nil))) pa_nil)))) pss_nil)
      (pss_cons (ps_if (pt_val (pe_callB (call_isD (p := p) (D := cBS K) (d := d) List.mem_cons_self (xt_BadSetting T).exc hz hf) rfl (n_isinstance T) (by decide +kernel) (pa_cons (pv 0) (pa_cons (pe_glob (v := .ref _) rfl (g_BadSetting T) rfl) pa_nil)))) (pss_one (ps_expr (pe_bm PySem.F.plainAttrs_list PySem.F.slot_list_append PySem.F.type_list_append mt_append (pv 1) (pa_cons (pe_tup (pa_cons pe_str (pa_cons (pe_xfG (p := p) (C := cBS K) List.mem_cons_self (xt_BadSetting T).xf (xn_BadSetting_what T) hz hf (pv 0)) pa_nil))) pa_nil)))) pss_nil)
      (pss_cons (ps_if (pt_val (pe_callB (call_isD (p := p) (D := cBS K) (d := d) List.mem_cons_self (xt_BadSetting T).exc hz hf) rfl (n_isinstance T) (by decide +kernel) (pa_cons (pv 0) (pa_cons (pe_glob (v := .ref _) rfl (g_BadHouse T) rfl) pa_nil)))) (pss_one (ps_expr (pe_bm PySem.F.plainAttrs_list PySem.F.slot_list_append PySem.F.type_list_append mt_append (pv 1) (pa_cons (pe_tup (pa_cons pe_str (pa_cons pe_noway pa_nil))) pa_nil)))) pss_nil)
      (pss_cons (ps_if (pt_val (pe_callB (call_isD (p := p) (D := cBS K) (d := d) List.mem_cons_self (xt_BadSetting T).exc hz hf) rfl (n_isinstance T) (by decide +kernel) (pa_cons (pv 0) (pa_cons (pe_glob (v := .ref _) rfl (g_BadDay T) rfl) pa_nil)))) (pss_one (ps_expr (pe_bm PySem.F.plainAttrs_list PySem.F.slot_list_append PySem.F.type_list_append mt_append (pv 1) (pa_cons (pe_tup (pa_cons pe_str (pa_cons pe_noway pa_nil))) pa_nil)))) pss_nil)
      (pss_cons (ps_if (pt_val (pe_callB (call_isD (p := p) (D := cBS K) (d := d) List.mem_cons_self (xt_BadSetting T).exc hz hf) rfl (n_isinstance T) (by decide +kernel) (pa_cons (pv 0) (pa_cons (pe_glob (v := .ref _) rfl (g_BadText T) rfl) pa_nil)))) (pss_one (ps_expr (pe_bm PySem.F.plainAttrs_list PySem.F.slot_list_append PySem.F.type_list_append mt_append (pv 1) (pa_cons (pe_tup (pa_cons pe_str (pa_cons pe_noway pa_nil))) pa_nil)))) pss_nil)
      (pss_cons (ps_if (pt_val (pe_callB (call_isD (p := p) (D := cBS K) (d := d) List.mem_cons_self (xt_BadSetting T).exc hz hf) rfl (n_isinstance T) (by decide +kernel) (pa_cons (pv 0) (pa_cons (pe_glob (v := .ref _) rfl (g_NotKept T) rfl) pa_nil)))) (pss_one (ps_expr (pe_bm PySem.F.plainAttrs_list PySem.F.slot_list_append PySem.F.type_list_append mt_append (pv 1) (pa_cons (pe_tup (pa_cons pe_str (pa_cons pe_noway (pa_cons pe_noway pa_nil)))) pa_nil)))) pss_nil)
      (pss_cons (ps_if (pt_val (pe_callB (call_isD (p := p) (D := cBS K) (d := d) List.mem_cons_self (xt_BadSetting T).exc hz hf) rfl (n_isinstance T) (by decide +kernel) (pa_cons (pv 0) (pa_cons (pe_glob (v := .ref _) rfl (g_Unsafe T) rfl) pa_nil)))) (pss_one (ps_expr (pe_bm PySem.F.plainAttrs_list PySem.F.slot_list_append PySem.F.type_list_append mt_append (pv 1) (pa_cons (pe_tup (pa_cons pe_str (pa_cons pe_noway (pa_cons pe_noway pa_nil)))) pa_nil)))) pss_nil)
      (pss_cons (ps_if (pt_val (pe_callB (call_isDT (p := p) (D := cBS K) (d := d) List.mem_cons_self (xt_BadSetting T).exc hz hf) rfl (n_isinstance T) (by decide +kernel) (pa_cons (pv 0) (pa_cons (pe_tup (pa_cons (pe_glob (v := .ref _) rfl (g_BadCalls T) rfl) (pa_cons (pe_glob (v := .ref _) rfl (g_BadOffers T) rfl) (pa_cons (pe_glob (v := .ref _) rfl (g_BadTable T) rfl) (pa_cons (pe_glob (v := .ref _) rfl (g_BadRow T) rfl) (pa_cons (pe_glob (v := .ref _) rfl (g_BadCalendar T) rfl) (pa_cons (pe_glob (v := .ref _) rfl (g_BadDeed T) rfl) pa_nil))))))) pa_nil)))) (pss_one (ps_expr (pe_bm PySem.F.plainAttrs_list PySem.F.slot_list_append PySem.F.type_list_append mt_append (pv 1) (pa_cons (pe_tup (pa_cons pe_str pa_nil)) pa_nil)))) pss_nil)
      (pss_one (ps_ret (pe_ifExp (pt_val (pe_callB (call_isD (p := p) (D := cBS K) (d := d) List.mem_cons_self (xt_BadSetting T).exc hz hf) rfl (n_isinstance T) (by decide +kernel) (pa_cons (pv 0) (pa_cons (pe_bltn (v := .ty "ValueError") (u := .type "ValueError") rfl (n_ValueError T) (by decide +kernel) rfl) pa_nil)))) (pv 1) (pe_lst pa_nil))))))))))))))))), ?_⟩

  refine ⟨(by show 0 ≤ sizeLine; decide), fun a ha => ?_⟩
  obtain ⟨h0, hF⟩ := new2 (.lst []) ha
  refine ⟨_, rfl, _, _, false, _, rfl, (fun u e => e), h0 _ _ hd, xk_BadSetting_TooMany T, _, rfl, iteF ?_⟩
  refine ⟨_, rfl, _, _, false, _, rfl, (fun u e => e), h0 _ _ hd, xk_BadSetting_BadSky T, _, rfl, iteF ?_⟩
  refine ⟨_, rfl, _, _, false, _, rfl, (fun u e => e), h0 _ _ hd, xk_BadSetting_BadWeather T, _, rfl, iteF ?_⟩
  refine ⟨_, rfl, _, _, false, _, rfl, (fun u e => e), h0 _ _ hd, xk_BadSetting_BadReport T, _, rfl, iteF ?_⟩
  refine ⟨_, rfl, _, _, false, _, rfl, (fun u e => e), h0 _ _ hd, xk_BadSetting_BadGarden T, _, rfl, iteF ?_⟩
  refine ⟨_, rfl, _, _, true, _, rfl, (fun u e => e), h0 _ _ hd, xk_BadSetting_BadSetting T, _, rfl, iteT ?_⟩
  refine ⟨_, rfl, .inl ⟨rfl, _, SqL.of hF⟩, _, rfl, rfl, rfl, d, _, v, rfl, h0 _ _ hd, rfl, (by show 2 ≤ sizeLine; decide), fun t ht => ?_⟩
  obtain ⟨hA, hT⟩ := new2 (.tup [.str "BadSetting", v]) ht
  have hF := hA _ _ hF
  have h1 := h0.trans hA
  refine ⟨a, [], _, rfl, rfl, hF, (by show 0 < sizeLine; decide), ?_⟩
  obtain ⟨H2, eH, h2, hT, hF⟩ := app1 h1 ha hF hT
  rw [← eH]
  clear hA eH
  refine ⟨_, rfl, _, _, false, _, rfl, (fun u e => e), h2 _ _ hd, xk_BadSetting_BadHouse T, _, rfl, iteF ?_⟩
  refine ⟨_, rfl, _, _, false, _, rfl, (fun u e => e), h2 _ _ hd, xk_BadSetting_BadDay T, _, rfl, iteF ?_⟩
  refine ⟨_, rfl, _, _, false, _, rfl, (fun u e => e), h2 _ _ hd, xk_BadSetting_BadText T, _, rfl, iteF ?_⟩
  refine ⟨_, rfl, _, _, false, _, rfl, (fun u e => e), h2 _ _ hd, xk_BadSetting_NotKept T, _, rfl, iteF ?_⟩
  refine ⟨_, rfl, _, _, false, _, rfl, (fun u e => e), h2 _ _ hd, xk_BadSetting_Unsafe T, _, rfl, iteF ?_⟩
  refine ⟨_, rfl, (by show 6 ≤ sizeLine; decide), fun tp htp => ?_⟩
  obtain ⟨hA, hTp⟩ := new2 (.tup [V.ref (He.ga K "BadCalls"), V.ref (He.ga K "BadOffers"), V.ref (He.ga K "BadTable"), V.ref (He.ga K "BadRow"), V.ref (He.ga K "BadCalendar"), V.ref (He.ga K "BadDeed")]) htp
  have hT := hA _ _ hT
  have hF := hA _ _ hF
  have h3 := h2.trans hA
  refine ⟨tp, _, _, false, _, rfl, hTp, (.cons (.own _) (.cons (.own _) (.cons (.own _) (.cons (.own _) (.cons (.own _) (.cons (.own _) .nil)))))), h3 _ _ hd, (kany_f (xk_BadSetting_BadCalls T) (kany_f (xk_BadSetting_BadOffers T) (kany_f (xk_BadSetting_BadTable T) (kany_f (xk_BadSetting_BadRow T) (kany_f (xk_BadSetting_BadCalendar T) (kany_f (xk_BadSetting_BadDeed T) rfl)))))), _, rfl, iteF ?_⟩
  refine ⟨_, rfl, _, _, true, _, rfl, (fun u e => e), h3 _ _ hd, xv_BadSetting T, _, rfl, iteT ⟨_, rfl, ?_⟩⟩
  exact q _ _ _ h3 hT hF

end
end K05
end
section
set_option maxRecDepth 100000
set_option maxHeartbeats 4000000
namespace K05
open PySem PySem.Spec PyProof.Rows L2
section
variable {P : Program} {w : World} {K : PySem.W.Frag} {mg : Str → Option Value} {base : Heap}
def ErrC (K : PySem.W.Frag) (C : Addr) (z fl : Str) : Prop := (C = cTM K ∧ z = "TooMany" ∧ fl = "what") ∨ (C = cBD K ∧ z = "BadDay" ∧ fl = "day") ∨ (C = cBS K ∧ z = "BadSetting" ∧ fl = "what")
def spErr (K : PySem.W.Frag) : SpE := fun a cls d vs H Q _ => ∃ (C : Addr) (z fl : Str) (d' : Addr) (v : V), ErrC K C z fl ∧ vs = [.ref a] ∧ cls = .ref C ∧ d = some d' ∧ H d' = some (.xd [(fl, v)]) ∧ ∀ l t H', Same H H' → H' t = some (.tup [.str z, v]) → H' l = some (.lst [.ref t]) → Q (.ref l) H'
theorem fe_error (T : Txt w K mg) : ∃ f fd, FnE P w K mg base 1 f fd ["error"] (spErr K) ∧ mg "_law_b_told" = some (.ref f) ∧ PySem.W.keepIn K (.ref f) = true ∧ Binds K fd ["error"] [] := by
  obtain ⟨f, fd, F, g⟩ := f__law_b_told T
  refine ⟨f, fd, ?_, g, F.kp, F.bindsN (fun _ _ _ _ _ _ us hl => match us, hl with | [_], _ => rfl)⟩
  obtain ⟨oc, od, dV, kV, doc, pm, an, cdv, ct, osl, rfl, lk, hcd, _, _⟩ := F.ex
  refine fnE_of (k := 0) lk hcd sc__law_b_told (fun a cls d vs H Q E h => ?_) (fun A outer s H vs Q p cls d hr hz hf h => ?_)
  · obtain ⟨C, z, fl, d', v, _, rfl, _⟩ := h
    rfl
  · obtain ⟨C, z, fl, d', v, hC, rfl, rfl, rfl, hd, q⟩ := h
    rcases hC with ⟨rfl, rfl, rfl⟩ | ⟨rfl, rfl, rfl⟩ | ⟨rfl, rfl, rfl⟩
    · exact body_TooMany T hz hf hd q
    · exact body_BadDay T hz hf hd q
    · exact body_BadSetting T hz hf hd q
def TTr (K : PySem.W.Frag) : (XK → Hp → VK → Prop) → (Hp → Prop) → V → Hp → VK → Prop := fun tl _ v2 H Q => ∃ (C : Addr) (z fl : Str) (v : V), ErrC K C z fl ∧ Leaf1 v ∧ (∃ t, v2 = .ref t ∧ H t = some (.tup [.str z, v])) ∧
  (∀ (H1 : Hp) (Q' : VK), Same H H1 → tl (fun cls d H' => cls = .ref C ∧ ∃ d', d = some d' ∧ Same H H' ∧ H' d' = some (.xd [(fl, v)])) H1 Q') ∧ ∀ H', Same H H' → Q (.bl true) H'
theorem ErrC.seen (T : Txt w K mg) {C : Addr} {z fl : Str} (h : ErrC K C z fl) : PySem.W.exmOne K (.ref C) (.ref (He.ga K "SeenError")) = some true := by
  rcases h with ⟨rfl, _⟩ | ⟨rfl, _⟩ | ⟨rfl, _⟩
  · exact xs_TooMany T
  · exact xs_BadDay T
  · exact xs_BadSetting T
theorem mt_told {H : Hp} {a b : Addr} {z : Str} {v : V} (hv : Leaf1 v) (ha : H a = some (.tup [.str z, v])) (hb : H b = some (.tup [.str z, v])) : Mt 1 H (.ref a) (.ref b) := by
  refine .inr ⟨a, b, _, _, rfl, rfl, .inr ⟨ha, hb⟩, rfl, (by show 2 ≤ 1000; decide), fun i x y hx hy => ?_⟩
  rcases i with _ | _ | i
  · cases hx; cases hy; exact .inr ⟨_, rfl, rfl⟩
  · cases hx; cases hy
    rcases hv with ⟨n, rfl⟩ | ⟨s, rfl⟩
    · exact .inl ⟨_, rfl, rfl⟩
    · exact .inr ⟨_, rfl, rfl⟩
  · cases hx
theorem mt_found {H : Hp} {a b t u : Addr} {z : Str} {v : V} (hv : Leaf1 v) (ht : H t = some (.tup [.str z, v])) (hu : H u = some (.tup [.str z, v])) (ha : H a = some (.lst [.ref t])) (hb : H b = some (.lst [.ref u])) : Mt 2 H (.ref a) (.ref b) := by
  refine .inr ⟨a, b, _, _, rfl, rfl, .inl ⟨ha, hb⟩, rfl, (by show 1 ≤ 1000; decide), fun i x y hx hy => ?_⟩
  rcases i with _ | i
  · cases hx; cases hy; exact mt_told hv ht hu
  · cases hx
theorem refused_gives {X : Cx} (T : Txt X.w X.K X.mg) (hrX : Room 9 X.A) {g : Addr} {cdg : Value} {q : Str} : LamX.Gives3 X ["call", "due", "found", "raised"] "_law_b_refused" (defScope s__law_b_refused) g cdg (defBody s__law_b_refused) "call" q (TTr X.K) := by
  intro f c' s H Q v2 tl hc hco h
  obtain ⟨C, z, fl, v, hC, hv, ⟨t, rfl, ht⟩, hl, k⟩ := h
  have hr := hrX.deeper (envOfC "_law_b_refused" (defScope s__law_b_refused) s.heap.objs.size g cdg)
  obtain ⟨fe, fde, FE, ge, ke, be⟩ := fe_error (P := X.prog) (base := X.base) T
  have ok__law_matches := fun (T : Txt X.w X.K X.mg) => ok_mt2 (P := X.prog) (base := X.base) T
  refine ⟨_, (pss_cons (ps_set (i := 2) sc__law_b_refused.nd rfl (by first | exact Or.inl rfl | exact Or.inr rfl) (pe_lst pa_nil))
      (pss_cons (L2.ps_try_as (ts := fun a cls d => tAsg (tCallE (spErr X.K a cls d) (tCons (tVar 3) tNil)) (gName 2)) (i := 3) (c := .ref (He.ga X.K "SeenError")) rfl rfl sc__law_b_refused.nd rfl rfl ⟨rfl, by decide, .inl (g_SeenError T)⟩ LamX.takes0 (fun W pn xe tk _ => pss_one (ps_expr (hc W pn xe (fun cls d H' => cls = .ref C ∧ ∃ d', d = some d' ∧ Same H H' ∧ H' d' = some (.xd [(fl, v)])) _ _ tk))) (fun a oe cls d pn hz hf => pss_one (ps_set (i := 2) sc__law_b_refused.nd rfl (by first | exact Or.inl rfl | exact Or.inr rfl) (pe_callE (X := Cx.suite (Cx.nox (cxOf C8.CX0 X.prog X.w X.K X.mg X.base ["call", "due", "found", "raised"] "_law_b_refused" (defScope s__law_b_refused) g cdg X.A X.stack s H C8.E0)) a ((a, oe) :: pn)) (x := "_law_b_told") (p := (a, oe)) FE (L2H.RoomH.mk (hr.mono (by decide : 1 ≤ 8)).dp (hr.mono (by decide : 1 ≤ 8)).un) List.mem_cons_self hz hf rfl ge ke be (pa_cons (pv 3) pa_nil)))))
      (pss_one (ps_ret (pe_ok (ok__law_matches T) (hr.mono (by first | decide | omega)) rfl pass0 (pa_cons (pv 2) (pa_cons (pe_lst (pa_cons (pv 1) pa_nil)) pa_nil))))))), ?_⟩
  refine ⟨(by show 0 ≤ sizeLine; decide), fun a ha => ?_⟩
  obtain ⟨s1, g1⟩ := new2 (.lst []) ha
  refine ⟨rfl, s1 _ _ hco, fun cls d H' ⟨e1, d', e2, s2, hd⟩ => ?_, hl _ _ s1⟩
  subst e1 e2
  refine ⟨true, hC.seen T, fun _ a ha => ⟨_, rfl, C, z, fl, d', v, hC, rfl, rfl, rfl, hd, fun l' t' H3 s3 ht' hl' => ?_⟩, fun z => by cases z⟩
  have e3 := s2.trans s3
  refine ⟨_, rfl, _, rfl, (by show 1 ≤ sizeLine; decide), fun m hm => ?_⟩
  obtain ⟨s4, g4⟩ := new2 (.lst [V.ref t]) hm
  exact ⟨_, _, rfl, mt_found hv (s4 _ _ ht') (s4 _ _ (e3 _ _ ht)) (s4 _ _ hl') g4, fun H4 s5 => k _ ((e3.trans s4).trans s5)⟩
end
end K05
end
section
set_option maxRecDepth 100000
set_option maxHeartbeats 4000000
namespace K05
open PySem PySem.Spec PyProof.Rows L2
/-- the tables of the defs that make lambdas, the names of what they hold -/
def Tl (K : PySem.W.Frag) : List (Addr × Str) := tf.map fun p => ((He.cT K p).2, p.1 ++ (".<locals>.<lambda>" : Str))
theorem tl_one {w : World} {K : PySem.W.Frag} {mg : Str → Option Value} (T : Txt w K mg) {P : Addr} {q : Str} (h : (P, q) ∈ Tl K) : ∀ p ∈ Tl K, p.1 = P → p.2 = q := by
  have hn := tabs_nodup T
  have e : tf.map (fun p => (He.cT K p).2) = (Tl K).map (·.1) := by unfold Tl; rw [List.map_map]; rfl
  rw [e] at hn
  intro p hp e1
  have : ∀ (l : List (Addr × Str)), (l.map (·.1)).Nodup → ∀ a ∈ l, ∀ b ∈ l, a.1 = b.1 → a = b := by
    intro l
    induction l with
    | nil => intro _ a ha; cases ha
    | cons c r ih =>
      intro hn a ha b hb hab
      rw [List.map_cons, List.nodup_cons] at hn
      rcases List.mem_cons.mp ha with ea | ha
      · rcases List.mem_cons.mp hb with eb | hb
        · rw [ea, eb]
        · exact absurd (List.mem_map.mpr ⟨b, hb, by rw [← hab, ea]⟩) hn.1
      · rcases List.mem_cons.mp hb with eb | hb
        · exact absurd (List.mem_map.mpr ⟨a, ha, by rw [hab, eb]⟩) hn.1
        · exact ih hn.2 a ha b hb hab
  rw [this _ hn p hp (P, q) h e1]
abbrev TabsB (K : PySem.W.Frag) (base : Heap) (mg : Str → Option Value) : Prop := ∀ p ∈ tf, LamX.TabB base mg (He.cT K p).1 (He.cT K p).2
section
variable {X : Cx} {cc P : Addr} {params : Arguments} {body : Expr} {scope : Scope} {t : XK → TE} {p lpos pos : Pos} {e2 : Expr} {te : TE}
theorem pe_refused (T : Txt X.w X.K X.mg) (hr : Room 12 X.A) (hg : Gl X "_law_b_refused") (TB : LamX.TabB X.base X.mg cc P) (hcode : X.env.code = .ref cc) (hmT : (P, X.env.qual ++ "<lambda>") ∈ Tl X.K) (L : LamX.LamS X.env.scope scope) (hdef : defaultsOf params X.env = ([], []))
    (hbind : ∀ (q : Str) (cl : List (Str × Addr)) (pm cv ctv : Value), bindArgs (PySem.W.kla_fn "<lambda>" q params body scope cl pm cv ctv) ⟨[], []⟩ = pure [])
    (hbody : ∀ (A : Around) (outer : List Env) (s : Shared) (H : Hp) (E : XK) (f c' : Addr), Room 10 (A.deeper (LamX.lamEnv X scope s.heap.objs.size f c')) → PE (LamX.lamCx X A outer s H E scope f c') body (t E))
    (he2 : PA X [e2] (tCons te tNil))
    (hs : starEach [.Lambda params body scope lpos, e2] X.env = (false, eval (.Lambda params body scope lpos) X.env) :: starEach [e2] X.env := by rfl) (hpl : (backTo pos (starEach [e2] X.env)).any (·.1) = false := by rfl) :
    PE X (.Call (.Name "_law_b_refused" p) [.Lambda params body scope lpos, e2] [] pos) (LamX.tLam2 (Tl X.K) (X.env.qual ++ "<lambda>") (TTr X.K) t te) := by
  obtain ⟨f, fd, F, g⟩ := f__law_b_refused T
  have B : L2.Binds X.K fd ["call", "due"] [] := F.bindsN (fun _ _ _ _ _ _ us hl => match us, hl with | [_, _], _ => rfl)
  obtain ⟨oc, od, dV, kV, doc, pm, an, cdv, ct, osl, rfl, lk, hcd, _, _⟩ := F.ex
  exact LamX.pe_lamcall3 (k := 10) hg g F.kp lk hcd B sc__law_b_refused rfl (by first | exact Or.inl rfl | exact Or.inr (Or.inl rfl) | exact Or.inr rfl) (refused_gives T (hr.mono (by decide))) TB hcode hmT (tl_one T hmT) hr L hdef hbind hbody he2 (by decide) (by decide) (by decide) hs hpl
end
section
variable {P : Program} {w : World} {K : PySem.W.Frag} {mg : Str → Option Value} {base : Heap}
theorem ref_step {q z fl : Str} {t : XK → TE} {tv : TE} {σ : L2.St} {H : Hp} {Q : VK} {C : Addr} (v : V) (hT : LamX.Tabs (Tl K) H) (hC : ErrC K C z fl) (hv : Leaf1 v) (htv : ∀ H1 Q, LamX.ExtN H H1 → Q v H1 → tv σ H1 Q)
    (hl : ∀ H2 H3 Q', LamX.ExtN H H2 → Same H2 H3 → t (Er C fl v H2) σ H3 Q') (k : ∀ H', LamX.ExtN H H' → LamX.Tabs (Tl K) H' → Q (.bl true) H') : LamX.tLam2 (Tl K) q (TTr K) t (tTup (tCons (tC (.str z)) (tCons tv tNil))) σ H Q := by
  refine ⟨hT, fun H1 c' e1 T1 hc => ?_⟩
  refine htv H1 _ e1 ⟨(by show 2 ≤ sizeLine; decide), fun p hp => ?_⟩
  obtain ⟨s2, hp2⟩ := new2 (.tup [.str z, v]) hp
  refine ⟨.ref p, rfl, s2 _ _ hc, C, z, fl, v, hC, hv, ⟨p, rfl, hp2⟩, fun H3 Q' s3 => hl _ _ _ (e1.trans (ext_of s2)) s3, fun H3 s3 => k _ ((e1.trans (ext_of s2)).trans (ext_of s3)) ((T1.ext s2).ext s3)⟩
end
end K05
end
section
set_option maxRecDepth 100000
set_option maxHeartbeats 4000000
namespace K05
open PySem PySem.Spec PyProof.Rows L2
/-- windows inside, row by row -/
def gM (ws : List (Int × Int)) (a b : Nat) : Int := (inC (a : Int) (b : Int) ws : Nat)
theorem gnE {i : Nat} {x : V} {σ : L2.St} {H : Hp} {Q : L2.St → Hp → Prop} (h : Q (σ.set i (some x)) H) : gName i x σ H Q := h
section
variable {P : Program} {w : World} {K : PySem.W.Frag} {mg : Str → Option Value} {base : Heap}
def spGrid (K : PySem.W.Frag) : Sp := fun vs H Q _ => ∃ (T : Nat) (l : Addr) (xs : List V) (ws : List (Int × Int)), vs = [.int T, .ref l] ∧ H l = some (.lst xs) ∧ Paired (PairT H) xs ws ∧ T ≤ 24 ∧ ws.length ≤ 120 ∧ (∀ c ∈ ws, VW T c) ∧ ∀ g H', H g = none → Same H H' → GridAt H H' g (gM ws) (T + 1) → Q (.ref g) H'
theorem ok_count_grid (T : Txt w K mg) : Ok P w K mg base CX0 1 "count_grid" ["days", "windows"] (spGrid K) := by
  refine Ok.def0 (f_count_grid T) (fun _ _ _ _ _ _ us hl => match us, hl with | [_, _], _ => rfl) sc_count_grid (fun vs H Q E h => ?_) (fun f cdv A outer s H vs Q E hr h => ?_)
  · obtain ⟨TT, l, xs, ws, rfl, _⟩ := h
    rfl
  · obtain ⟨TT, l, xs, ws, rfl, h2, h3, hT, hl, hV, k⟩ := h
    have hxl : xs.length ≤ 120 := by rw [Paired.length h3]; exact hl
    refine ⟨_, (pss_cons (ps_setLc (i := 3) (own := [("a", 2)]) rfl sc_count_grid.nd rfl rfl (sw_true rfl rfl rfl (by decide +kernel)) (pi_range1 rfl (n_range T) (pa_cons (pe_op op_add (pv 0) pe_int) pa_nil)) (blkOk_by (N := ["days", "windows", "a", "grid", "first", "last", "b"]) (sc := defScope s_count_grid) (by decide +kernel)) (fun _ _ _ _ _ => (pg_name (i := 2) sc_count_grid.nd rfl (by first | exact Or.inl rfl | exact Or.inr rfl))) (fun _ _ _ _ _ => pts_nil) (fun _ _ _ _ _ => (pe_op op_rep (pe_lst (pa_cons pe_int pa_nil)) (pe_op op_add (pv 0) pe_int))))
      (pss_cons (ps_for PassesOwn.never rfl (pi_listK (K := K) rfl (pv 1)) (pg_tupK (K := K) (n := 2) rfl rfl (pgs_cons (pg_name (i := 4) sc_count_grid.nd rfl (by first | exact Or.inl rfl | exact Or.inr rfl)) (pgs_cons (pg_name (i := 5) sc_count_grid.nd rfl (by first | exact Or.inl rfl | exact Or.inr rfl)) pgs_nil)))
        (pss_one (ps_for PassesOwn.never rfl (pi_range1 rfl (n_range T) (pa_cons (pv 4) pa_nil)) (pg_name (i := 2) sc_count_grid.nd rfl (by first | exact Or.inl rfl | exact Or.inr rfl))
        (pss_one (ps_for PassesOwn.never rfl (pi_range2 rfl (n_range T) (pa_cons (pv 5) (pa_cons (pe_op op_add (pv 0) pe_int) pa_nil))) (pg_name (i := 6) sc_count_grid.nd rfl (by first | exact Or.inl rfl | exact Or.inr rfl))
        (pss_one (ps_asg (pe_op op_add (pe_ix (ix_seqK (K := K) rfl) (pe_ix (ix_listK (K := K) rfl) (pv 3) (pv 2) (fun _ _ => rfl)) (pv 6) (fun _ _ => rfl)) pe_int) (pg_sub (pe_ix (ix_listK (K := K) rfl) (pv 3) (pv 2) (fun _ _ => rfl)) (pv 6) set_list))))))))
      (pss_one (ps_ret (pv 3))))), ?_⟩
    refine ⟨_, rfl, _, _, rfl, rfl, _, rfl, by omega, by omega, fun D hD => lc_upto (lo := 0) (L := TT + 1) (by omega) hD (by omega) (fun j acc H2 => ∃ rs : List Addr, acc = rs.map V.ref ∧ rs.length = j ∧ rs.Nodup ∧ (D ∉ rs ∧ ∀ r ∈ rs, H r = none) ∧ ∀ a r, rs[a]? = some r → H2 r = some (.lst (rowV (TT + 1) fun _ => 0))) (fun _ _ => ⟨([] : List Addr), rfl, rfl, List.nodup_nil, ⟨by simp, fun r h => by simp at h⟩, fun (a : Nat) (r : Addr) (h : ([] : List Addr)[a]? = some r) => absurd h (by simp)⟩) ?_ ?_⟩
    · rintro j acc H2 N N0 hj s2 hacc ⟨rs, rfl, hrl, hnd, hDn, hrs⟩ hN hN0
      refine ⟨rfl, (by show 1 ≤ sizeLine; decide), fun p hp => ⟨_, rfl, _, _, rfl, rfl, p, _, _, rfl, rfl, upd_same, by omega, by omega, line_of (by show 1 * _ ≤ _; omega), fun r hr_ => ?_⟩⟩
      obtain ⟨s3, g3⟩ := new2 (.lst [V.int 0]) hp
      obtain ⟨s4, g4⟩ := new2 (.lst (List.replicate ((TT : Int) + 1).toNat [V.int 0]).flatten) hr_
      have e0 : ((TT : Int) + 1).toNat = TT + 1 := by omega
      rw [rowV_rep, e0] at s4 g4 ⊢
      have s34 := s3.trans s4
      have hrD : r ≠ D := fun z => by rw [z, s3 _ _ hacc] at hr_; cases hr_
      refine hN _ _ s34 fun H5 b5 _ => ⟨rs ++ [r], by rw [List.map_append]; rfl, by rw [List.length_append, hrl]; rfl, ?_, ?_, fun a q hq => ?_⟩
      · rw [List.nodup_append]
        refine ⟨hnd, by simp, fun x hx y hy => ?_⟩
        rw [List.mem_singleton.mp hy]
        intro z
        obtain ⟨a, ha⟩ := List.getElem?_of_mem hx
        have := s3 _ _ (hrs a x ha)
        rw [z, hr_] at this
        cases this
      · refine ⟨fun z => ?_, fun q hq => ?_⟩
        · rcases List.mem_append.mp z with z | z
          · exact hDn.1 z
          · exact hrD (List.mem_singleton.mp z).symm
        · rcases List.mem_append.mp hq with z | z
          · exact hDn.2 q z
          · rw [List.mem_singleton.mp z]
            exact none_of (s2.trans s3) hr_
      · rcases Nat.lt_or_ge a rs.length with c | c
        · rw [List.getElem?_append_left c] at hq
          exact b5 _ _ (s34 _ _ (hrs a q hq)) fun z => hDn.1 (by rw [← z]; exact List.mem_of_getElem? hq)
        · rw [List.getElem?_append_right c] at hq
          have : q = r := List.mem_singleton.mp (List.mem_of_getElem? hq)
          rw [this]
          exact b5 _ _ g4 hrD
    · rintro acc H2 s2 hacc hal ⟨rs, rfl, hrl, hnd, hDn, hrs⟩
      have hG0 : GridAt H H2 D (fun _ _ => 0) (TT + 1) := ⟨rs, hacc, hrl, hnd, hDn, hrs⟩
      have frs : ∀ {H' : Hp}, Same H H' → True := fun _ => trivial
      refine ⟨_, rfl, l, rfl, ⟨_, SqL.of (s2 _ _ h2)⟩, for_list (K := K) (a := l) (xs := xs) (fun i σ H' => ∃ v2 v4 v5 v6, σ = [some (.int TT), some (.ref l), v2, some (.ref D), v4, v5, v6] ∧ Same H H' ∧ GridAt H H' D (gM (ws.take i)) (TT + 1)) ⟨_, _, _, _, rfl, s2, hG0⟩ (fun _ _ _ _ ⟨_, _, _, _, _, z, _⟩ => SqL.of (z _ _ h2)) ?_ ?_⟩
      · rintro i x σ H3 hx ⟨v2, v4, v5, v6, rfl, e3, hG3⟩
        obtain ⟨c, hc, hr⟩ := paired_get h3 hx
        have hVc := hV c (List.mem_of_getElem? hc)
        unfold VW at hVc
        obtain ⟨f, hf⟩ : ∃ f : Nat, c.1 = (f : Int) := ⟨c.1.toNat, by omega⟩
        obtain ⟨e, he⟩ : ∃ e : Nat, c.2 = (e : Int) := ⟨c.2.toNat, by omega⟩
        refine (hr.same e3).un rfl ?_
        rw [hf, he]
        refine ⟨_, rfl, _, rfl, by omega, by omega, for_upto (lo := 0) (L := f) (by omega) (fun a σ H' => ∃ v2 v6, σ = [some (.int TT), some (.ref l), v2, some (.ref D), some (.int f), some (.int e), v6] ∧ Same H H' ∧ GridAt H H' D (fun x y => gM (ws.take i) x y + if x < a ∧ e ≤ y then 1 else 0) (TT + 1)) ⟨_, _, rfl, e3, hG3.congr fun x y _ _ => by simp⟩ ?_ ?_⟩
        · rintro a σ H4 ha ⟨v2, v6, rfl, e4, hG4⟩
          refine ⟨_, rfl, _, rfl, _, _, rfl, rfl, _, _, rfl, by omega, for_upto (lo := (e : Int)) (L := TT + 1 - e) (by omega) (fun b σ H' => ∃ v6, σ = [some (.int TT), some (.ref l), some (.int (0 + (a : Int))), some (.ref D), some (.int f), some (.int e), v6] ∧ Same H H' ∧ GridAt H H' D (fun x y => (gM (ws.take i) x y + if x < a ∧ e ≤ y then 1 else 0) + if x = a ∧ e ≤ y ∧ y < e + b then 1 else 0) (TT + 1)) ⟨_, rfl, e4, hG4.congr fun x y _ _ => by rw [if_neg (c := x = a ∧ e ≤ y ∧ y < e + 0) (by omega)]; omega⟩ ?_ ?_⟩
          · rintro b σ H5 hb ⟨v6, rfl, e5, hG5⟩
            obtain ⟨rs', r, q1, q2, q3, q0, q4⟩ := hG5.put (a := a) (b := e + b) (((gM (ws.take i) a (e + b) + if a < a ∧ e ≤ e + b then 1 else 0) + if a = a ∧ e ≤ e + b ∧ e + b < e + b then 1 else 0) + 1) (by omega) (by omega)
            rw [rowV_set] at q4
            have q5 : (rowV (TT + 1) fun y => (gM (ws.take i) a y + if a < a ∧ e ≤ y then 1 else 0) + if a = a ∧ e ≤ y ∧ y < e + b then 1 else 0)[e + b]? = some (.int ((gM (ws.take i) a (e + b) + if a < a ∧ e ≤ e + b then 1 else 0) + if a = a ∧ e ≤ e + b ∧ e + b < e + b then 1 else 0)) := rowV_get (by omega)
            have z1 : (0 : Int) + (a : Int) = (a : Nat) := by omega
            have z2 : (e : Int) + (b : Int) = ((e + b : Nat) : Int) := by omega
            refine gnE ?_
            refine ⟨_, rfl, _, rfl, D, _, _, _, rfl, rfl, SqL.of q1, at_of z1 q2, _, rfl, .inl ⟨r, _, _, _, rfl, rfl, SqL.of q3, at_of z2 q5, _, _, rfl, rfl, ?_⟩⟩
            refine ⟨_, rfl, _, rfl, D, _, _, _, rfl, rfl, SqL.of q1, at_of z1 q2, _, rfl, r, _, _, e + b, rfl, rfl, q3, ?_, ?_⟩
            · rw [z2, rowV_len]
              exact ix_nat (by omega)
            · rw [rowV_set]
              refine ⟨_, rfl, ?_, q4.congr fun x y hx hy => ?_⟩
              · exact same_mut e5 q0
              · by_cases c1 : x = a ∧ y = e + b
                · obtain ⟨rfl, rfl⟩ := c1
                  simp
                · rw [if_neg c1]
                  have : (x = a ∧ e ≤ y ∧ y < e + (b + 1)) ↔ (x = a ∧ e ≤ y ∧ y < e + b) := by omega
                  simp only [this]
          · rintro σ H5 ⟨v6, rfl, e5, hG5⟩
            refine ⟨_, _, rfl, e5, hG5.congr fun x y hx hy => ?_⟩
            repeat' split
            all_goals omega
        · rintro σ H4 ⟨v2, v6, rfl, e4, hG4⟩
          refine ⟨_, _, _, _, rfl, e4, hG4.congr fun x y hx hy => ?_⟩
          unfold gM inC
          cases q : (decide ((x : Int) < c.1) && decide (c.2 ≤ (y : Int))) with
          | true =>
            rw [flt_take hc true q, if_pos (by rw [Bool.and_eq_true, decide_eq_true_eq, decide_eq_true_eq] at q; omega)]
            simp
          | false =>
            rw [flt_take hc false q, if_neg (by rw [Bool.and_eq_false_iff, decide_eq_false_iff_not, decide_eq_false_iff_not] at q; omega)]
            simp
      · rintro σ H3 ⟨v2, v4, v5, v6, rfl, e3, hG3⟩
        rw [Paired.length h3, List.take_length] at hG3
        exact ⟨_, rfl, k D H3 hD e3 hG3⟩
end
end K05
end
section
set_option maxRecDepth 100000
set_option maxHeartbeats 4000000
namespace K05
open PySem PySem.Spec PyProof.Rows L2
/-- too many for the ditch -/
def Bad (M : Nat → Nat → Int) (h : Int) (a b : Nat) : Prop := M a b > h * ((b : Int) - (a : Int))
/-- the first stretch that the ditch does not take -/
def FB (M : Nat → Nat → Int) (T : Nat) : Option Int → Option (Nat × Nat) → Prop
  | none, r => r = none
  | some h, none => ∀ a b, a < b → b ≤ T → ¬ Bad M h a b
  | some h, some (a, b) => a < b ∧ b ≤ T ∧ Bad M h a b ∧ ∀ a' b', a' < b' → (b' < b ∨ (b' = b ∧ a' < a)) → ¬ Bad M h a' b'
theorem FB.uniq {M : Nat → Nat → Int} {T : Nat} : ∀ {h : Option Int} {r r' : Option (Nat × Nat)}, FB M T h r → FB M T h r' → r = r'
  | none, _, _, h1, h2 => by rw [show _ = none from h1, show _ = none from h2]
  | some h, none, none, _, _ => rfl
  | some h, none, some (a, b), h1, h2 => absurd h2.2.2.1 (h1 a b h2.1 h2.2.1)
  | some h, some (a, b), none, h1, h2 => absurd h1.2.2.1 (h2 a b h1.1 h1.2.1)
  | some h, some (a, b), some (a', b'), h1, h2 => by
    have x1 := fun z => h1.2.2.2 a' b' h2.1 z h2.2.2.1
    have x2 := fun z => h2.2.2.2 a b h1.1 z h1.2.2.1
    rcases Nat.lt_trichotomy b b' with q | q | q
    · exact (x2 (.inl q)).elim
    · rcases Nat.lt_trichotomy a a' with p | p | p
      · exact (x2 (.inr ⟨q, p⟩)).elim
      · rw [q, p]
      · exact (x1 (.inr ⟨q.symm, p⟩)).elim
    · exact (x1 (.inl q)).elim
def UV (H : Hp) (v : V) : Option (Nat × Nat) → Prop
  | none => v = .non
  | some (a, b) => ∃ t, v = .ref t ∧ H t = some (.tup [.int a, .int b])
section
variable {P : Program} {w : World} {K : PySem.W.Frag} {mg : Str → Option Value} {base : Heap}
def spUnfit : Sp := fun vs H Q _ => ∃ (T : Nat) (g : Addr) (M : Nat → Nat → Int) (h : Option Int), vs = [.ref g, .int T, hV h] ∧ RowsAt H g M (T + 1) ∧ T ≤ 24 ∧ ∀ v r H', Same H H' → UV H' v r → FB M T h r → Q v H'
theorem ok_first_unfit (T : Txt w K mg) : Ok P w K mg base CX0 1 "first_unfit" ["grid", "days", "ditch"] spUnfit := by
  refine Ok.def0 (f_first_unfit T) (fun _ _ _ _ _ _ us hl => match us, hl with | [_, _, _], _ => rfl) sc_first_unfit (fun vs H Q E h => ?_) (fun f cdv A outer s H vs Q E hr h => ?_)
  · obtain ⟨TT, g, M, h, rfl, _⟩ := h
    rfl
  · obtain ⟨TT, g, M, h, rfl, hG, hT, k⟩ := h
    refine ⟨_, (pss_cons (ps_if (pt_cmpR op_isN (pv 2) pe_non (nomark _)) (pss_one (ps_ret pe_non)) pss_nil)
      (pss_cons (ps_for PassesOwn.never rfl (pi_range2 rfl (n_range T) (pa_cons pe_int (pa_cons (pe_op op_add (pv 1) pe_int) pa_nil))) (pg_name (i := 3) sc_first_unfit.nd rfl (by first | exact Or.inl rfl | exact Or.inr rfl))
        (pss_one (ps_for PassesOwn.never rfl (pi_range1 rfl (n_range T) (pa_cons (pv 3) pa_nil)) (pg_name (i := 4) sc_first_unfit.nd rfl (by first | exact Or.inl rfl | exact Or.inr rfl))
        (pss_one (ps_if (pt_cmpR op_gt (pe_ix (ix_seqK (K := K) rfl) (pe_ix (ix_listK (K := K) rfl) (pv 0) (pv 4) (fun _ _ => rfl)) (pv 3) (fun _ _ => rfl)) (pe_op op_mul (pv 2) (pe_op op_sub (pv 3) (pv 4))) (nomark _)) (pss_one (ps_ret (pe_tup (pa_cons (pv 4) (pa_cons (pv 3) pa_nil))))) pss_nil)))))
      (pss_one (ps_ret pe_non)))), ?_⟩
    cases h with
    | none =>
      refine ⟨_, rfl, rfl, _, rfl, ?_⟩
      rw [in_none]
      exact iteT (k .non none H (Same.refl H) rfl rfl)
    | some h =>
      refine ⟨_, rfl, rfl, _, rfl, ?_⟩
      rw [in_some]
      refine iteF ⟨_, rfl, _, _, rfl, rfl, 1, TT + 1, rfl, by omega, for_upto (lo := 1) (L := TT) (by omega) (fun b σ H' => ∃ v3 v4, σ = [some (.ref g), some (.int TT), some (.int h), v3, v4] ∧ H' = H ∧ ∀ a' b', a' < b' → b' < b + 1 → ¬ Bad M h a' b') ⟨_, _, rfl, rfl, fun a' b' h1 h2 => by omega⟩ ?_ ?_⟩
      · rintro b σ H' hb ⟨v3, v4, rfl, rfl, hgood⟩
        refine ⟨_, rfl, _, rfl, by omega, by omega, for_upto (lo := 0) (L := b + 1) (by omega) (fun a σ H0 => ∃ v4, σ = [some (.ref g), some (.int TT), some (.int h), some (.int (1 + (b : Int))), v4] ∧ H0 = H' ∧ ∀ a', a' < a → ¬ Bad M h a' (b + 1)) ⟨_, rfl, rfl, fun a' h1 => by omega⟩ ?_ ?_⟩
        · rintro a σ H0 ha ⟨v4, rfl, rfl, hg2⟩
          obtain ⟨rs, r, q1, q2, q3, q4⟩ := hG.get (a := a) (b := b + 1) (by omega) (by omega)
          have z1 : (0 : Int) + (a : Int) = (a : Nat) := by omega
          have z2 : (1 : Int) + (b : Int) = ((b + 1 : Nat) : Int) := by omega
          refine ⟨_, rfl, _, rfl, g, _, _, _, rfl, rfl, SqL.of q1, at_of z1 q2, _, rfl, .inl ⟨r, _, _, _, rfl, rfl, SqL.of q3, at_of z2 q4, ?_⟩⟩
          refine ⟨_, rfl, _, rfl, _, rfl, _, _, rfl, rfl, _, _, rfl, rfl, .inr (by constructor <;> omega), _, _, rfl, rfl, _, rfl, ?_⟩
          refine ite2 (fun c => ?_) (fun c => ?_)
          · refine ⟨_, rfl, _, rfl, (by show 2 ≤ sizeLine; decide), fun t ht => ?_⟩
            obtain ⟨s1, g1⟩ := new2 (.tup [.int (0 + (a : Int)), .int (1 + (b : Int))]) ht
            refine k _ (some (a, b + 1)) _ s1 ⟨t, rfl, ?_⟩ ?_
            · rw [g1, z1, z2]
            · have hc : Bad M h a (b + 1) := by
                have := of_decide_eq_true c
                rw [z1, z2] at this
                exact this
              refine ⟨by omega, by omega, hc, fun a' b' h1 h2 => ?_⟩
              rcases h2 with h2 | ⟨rfl, h2⟩
              · exact hgood a' b' h1 h2
              · exact hg2 a' h2
          · refine ⟨_, rfl, rfl, fun a' h1 => ?_⟩
            by_cases e : a' = a
            · subst e
              intro hb'
              refine c (decide_eq_true ?_)
              rw [z1, z2]
              exact hb'
            · exact hg2 a' (by omega)
        · rintro σ H0 ⟨v4, rfl, rfl, hg2⟩
          refine ⟨_, _, rfl, rfl, fun a' b' h1 h2 => ?_⟩
          by_cases e : b' = b + 1
          · subst e
            exact hg2 a' h1
          · exact hgood a' b' h1 (by omega)
      · rintro σ H' ⟨v3, v4, rfl, rfl, hgood⟩
        exact k .non none _ (Same.refl _) rfl fun a b h1 h2 => hgood a b h1 (by omega)
end
end K05
end
section
set_option maxRecDepth 100000
set_option maxHeartbeats 4000000
namespace K05
open PySem PySem.Spec PyProof.Rows L2
/-- what is due from t on, up to c: k days behind c are looked at -/
def dueN (f : Nat → Int) (h : Int) : Nat → Nat → Int
  | 0, c => f c
  | k + 1, c => max (f c) (dueN f h k (c + 1) - h)
def dueP (M : Nat → Nat → Int) (T : Nat) (h : Option Int) (t c : Nat) : Int :=
  match h with
  | none => M t c
  | some h => dueN (M t) h (T - c) c
/-- the table of what is due: zeros ahead of t -/
def dueT (M : Nat → Nat → Int) (T : Nat) (h : Option Int) (t c : Nat) : Int := if c < t then 0 else dueP M T h t c
theorem st_blk {t1 t2 : TS} {D : Ends} {σ : L2.St} {H : Hp} (PV : L2.St → Hp → Prop) (h : ∀ N : L2.St → Hp → Prop, (∀ σ' H', PV σ' H' → N σ' H') → t1 { D with nx := N } σ H) (q : ∀ σ' H', PV σ' H' → t2 D σ' H') : tSeq t1 t2 D σ H := h _ q
section
variable {P : Program} {w : World} {K : PySem.W.Frag} {mg : Str → Option Value} {base : Heap}
def spDueRows : Sp := fun vs H Q _ => ∃ (T : Nat) (g : Addr) (M : Nat → Nat → Int) (h : Option Int), vs = [.ref g, .int T, hV h] ∧ RowsAt H g M (T + 1) ∧ T ≤ 24 ∧ ∀ d H', H d = none → Same H H' → RowsAt H' d (dueT M T h) (T + 1) → Q (.ref d) H'
theorem ok_due_rows (T : Txt w K mg) : Ok P w K mg base CX0 1 "due_rows" ["grid", "days", "ditch"] spDueRows := by
  refine Ok.def0 (f_due_rows T) (fun _ _ _ _ _ _ us hl => match us, hl with | [_, _, _], _ => rfl) sc_due_rows (fun vs H Q E h => ?_) (fun f cdv A outer s H vs Q E hr h => ?_)
  · obtain ⟨TT, g, M, h, rfl, _⟩ := h
    rfl
  · obtain ⟨TT, g, M, h, rfl, hG, hT, k⟩ := h
    refine ⟨_, (pss_cons (ps_set (i := 3) sc_due_rows.nd rfl (by first | exact Or.inl rfl | exact Or.inr rfl) (pe_lst pa_nil))
      (pss_cons (ps_for PassesOwn.never rfl (pi_range1 rfl (n_range T) (pa_cons (pe_op op_add (pv 1) pe_int) pa_nil)) (pg_name (i := 4) sc_due_rows.nd rfl (by first | exact Or.inl rfl | exact Or.inr rfl))
        (pss_cons (ps_set (i := 6) sc_due_rows.nd rfl (by first | exact Or.inl rfl | exact Or.inr rfl) (pe_op op_cat (pe_op op_rep (pe_lst (pa_cons pe_int pa_nil)) (pv 4)) (pe_lc (own := [("c", 5)]) rfl sc_due_rows.nd (pi_range2 rfl (n_range T) (pa_cons (pv 4) (pa_cons (pe_op op_add (pv 1) pe_int) pa_nil))) (blkOk_by (N := ["grid", "days", "ditch", "rows", "t", "c", "row"]) (sc := defScope s_due_rows) (by decide +kernel)) (fun _ _ _ _ _ => (pg_name (i := 5) sc_due_rows.nd rfl (by first | exact Or.inl rfl | exact Or.inr rfl))) (fun _ _ _ _ _ => pts_nil) (fun _ _ _ _ _ => (pe_ix (ix_seqK (K := K) rfl) (pe_ix (ix_listK (K := K) rfl) (pv 0) (pv 4) (fun _ _ => rfl)) (pv 5) (fun _ _ => rfl))))))
      (pss_cons (ps_if (pt_cmpR op_notN (pv 2) pe_non (nomark _)) (pss_one (ps_for PassesOwn.never rfl (pi_range3 rfl (n_range T) (pa_cons (pe_op op_sub (pv 1) pe_int) (pa_cons (pe_op op_sub (pv 4) pe_int) (pa_cons (pe_un un_neg pe_int) pa_nil)))) (pg_name (i := 5) sc_due_rows.nd rfl (by first | exact Or.inl rfl | exact Or.inr rfl))
        (pss_one (ps_asg (pe_callB (call_max2 rfl) rfl (n_max T) (by decide +kernel) (pa_cons (pe_ix (ix_listK (K := K) rfl) (pv 6) (pv 5) (fun _ _ => rfl)) (pa_cons (pe_op op_sub (pe_ix (ix_listK (K := K) rfl) (pv 6) (pe_op op_add (pv 5) pe_int) (fun _ _ => rfl)) (pv 2)) pa_nil))) (pg_sub (pv 6) (pv 5) set_list))))) pss_nil)
      (pss_one (ps_expr (pe_bm PySem.F.plainAttrs_list PySem.F.slot_list_append PySem.F.type_list_append mt_append (pv 3) (pa_cons (pv 6) pa_nil)))))))
      (pss_one (ps_ret (pv 3))))), ?_⟩
    refine ⟨(by show 0 ≤ sizeLine; decide), fun D hD => ?_⟩
    obtain ⟨s1, g1⟩ := new2 (.lst []) hD
    refine ⟨_, rfl, _, _, rfl, rfl, _, rfl, by omega, by omega, for_upto (lo := 0) (L := TT + 1) (by omega) (fun t σ H' => ∃ v4 v5 v6, σ = [some (.ref g), some (.int TT), some (hV h), some (.ref D), v4, v5, v6] ∧ Same H H' ∧ ∃ rs : List Addr, H' D = some (.lst (rs.map V.ref)) ∧ rs.length = t ∧ ∀ a r, rs[a]? = some r → H' r = some (.lst (rowV (TT + 1) (dueT M TT h a)))) ⟨_, _, _, rfl, s1, ([] : List Addr), g1, rfl, fun (a : Nat) (r : Addr) (h : ([] : List Addr)[a]? = some r) => absurd h (by simp)⟩ ?_ ?_⟩
    · rintro t σ H2 ht ⟨v4, v5, v6, rfl, e2, rs, hD2, hrl, hrs⟩
      have hG2 := hG.same e2
      have z1 : (0 : Int) + (t : Int) = (t : Nat) := by omega
      -- the row before the ditch is looked at
      refine ⟨(by show 1 ≤ sizeLine; decide), fun p hp => ⟨_, rfl, p, _, _, rfl, rfl, upd_same, by omega, by omega, line_of (by show 1 * _ ≤ _; omega), fun r1 hr1 => ?_⟩⟩
      obtain ⟨s3, g3⟩ := new2 (.lst [V.int 0]) hp
      obtain ⟨s4, g4⟩ := new2 (.lst (List.replicate (0 + (t : Int)).toNat [V.int 0]).flatten) hr1
      have e0 : (0 + (t : Int)).toNat = t := by omega
      rw [rowV_rep, e0] at s4 g4 ⊢
      have s34 := s3.trans s4
      generalize upd (upd H2 p (.lst [V.int 0])) r1 (.lst (rowV t fun _ => 0)) = H4 at s4 g4 s34 ⊢
      have hG4 := hG2.same s34
      obtain ⟨rs', rr, q1, q2, q3, q4⟩ := hG4.get (a := t) (b := 0) (by omega) (by omega)
      refine ⟨_, rfl, _, rfl, _, _, rfl, rfl, _, _, rfl, by omega, fun D2 hD2' => lc_upto (lo := 0 + (t : Int)) (L := TT + 1 - t) (by omega) hD2' (by omega) (fun j acc _ => acc = (List.range j).map fun i => V.int (M t (t + i))) (fun _ _ => rfl) ?_ ?_⟩
      · rintro i acc H5 N N0 hi s5 hacc rfl hN hN0
        have z2 : (0 : Int) + (t : Int) + (i : Int) = ((t + i : Nat) : Int) := by omega
        have q4 : (rowV (TT + 1) (M t))[t + i]? = some (.int (M t (t + i))) := rowV_get (by omega)
        refine ⟨rfl, ?_⟩
        refine ⟨_, rfl, _, rfl, g, _, _, _, rfl, rfl, SqL.of (s5 _ _ q1), at_of z1 q2, _, rfl, .inl ⟨rr, _, _, _, rfl, rfl, SqL.of (s5 _ _ q3), at_of z2 q4, hN _ _ (Same.refl _) fun _ _ _ => ?_⟩⟩
        rw [List.range_succ, List.map_append]
        rfl
      · rintro acc H5 s5 hacc hal rfl
        refine ⟨r1, D2, _, _, rfl, rfl, s5 _ _ g4, hacc, line_of (by rw [rowV_len, List.length_map, List.length_range]; omega), fun r hr => ?_⟩
        obtain ⟨s6, g6⟩ := new2 (.lst (rowV t (fun _ => 0) ++ (List.range (TT + 1 - t)).map fun i => V.int (M t (t + i)))) hr
        have er : rowV t (fun _ => 0) ++ (List.range (TT + 1 - t)).map (fun i => V.int (M t (t + i))) = rowV (TT + 1) fun c => if c < t then 0 else M t c := by
          refine List.ext_getElem? fun i => ?_
          rcases Nat.lt_or_ge i t with c | c
          · rw [List.getElem?_append_left (by rw [rowV_len]; exact c), rowV_get c, rowV_get (by omega), if_pos c]
          · rw [List.getElem?_append_right (by rw [rowV_len]; exact c), rowV_len]
            rcases Nat.lt_or_ge i (TT + 1) with c2 | c2
            · rw [rowV_get c2, if_neg (by omega), List.getElem?_map, List.getElem?_range (by omega)]
              show some (V.int (M t (t + (i - t)))) = _
              have : t + (i - t) = i := by omega
              rw [this]
            · rw [List.getElem?_eq_none (by rw [List.length_map, List.length_range]; omega), List.getElem?_eq_none (by rw [rowV_len]; exact c2)]
        rw [er] at s6 g6 ⊢
        have s46 := s5.trans s6
        generalize upd H5 r (.lst (rowV (TT + 1) fun c => if c < t then 0 else M t c)) = H6 at s6 g6 s46 ⊢
        have e6 := (e2.trans s34).trans s46
        have hr0 : H r = none := none_of (e2.trans (s34.trans s5)) hr
        -- the ditch
        refine nxE (st_blk (fun σ H' => ∃ v5, σ = [some (.ref g), some (.int TT), some (hV h), some (.ref D), some (.int (0 + (t : Int))), v5, some (.ref r)] ∧ But r H6 H' ∧ H' r = some (.lst (rowV (TT + 1) (dueT M TT h t)))) (fun N hN => ?_) ?_)
        · cases h with
          | none =>
            refine ⟨_, rfl, rfl, _, rfl, ?_⟩
            rw [nn_none]
            exact iteF (hN _ _ ⟨_, rfl, But.refl r H6, g6⟩)
          | some h =>
            refine ⟨_, rfl, rfl, _, rfl, ?_⟩
            rw [nn_some]
            refine iteT ⟨_, rfl, _, _, rfl, rfl, _, rfl, _, _, rfl, rfl, _, rfl, _, _, _, _, rfl, RgC.neg (by omega) (by omega) (by omega) (by omega), for_rangeC (fun i σ H' => ∃ v5, σ = [some (.ref g), some (.int TT), some (.int h), some (.ref D), some (.int (0 + (t : Int))), v5, some (.ref r)] ∧ But r H6 H' ∧ H' r = some (.lst (rowV (TT + 1) fun c => if c < t then 0 else if c + i < TT then M t c else dueN (M t) h (TT - c) c))) ⟨_, rfl, But.refl r H6, ?_⟩ ?_ ?_⟩
            · rw [g6]
              congr 2
              refine rowV_congr fun c hc => ?_
              by_cases c1 : c < t
              · rw [if_pos c1, if_pos c1]
              · rw [if_neg c1, if_neg c1]
                by_cases c2 : c + 0 < TT
                · rw [if_pos c2]
                · rw [if_neg c2]
                  have : c = TT := by omega
                  subst this
                  rw [Nat.sub_self]
                  rfl
            · rintro i σ H7 hi ⟨v5, rfl, b7, g7⟩
              have hin : t + i < TT := by omega
              obtain ⟨c, hc⟩ : ∃ c : Nat, c + i + 1 = TT := ⟨TT - 1 - i, by omega⟩
              have z3 : (TT : Int) - 1 + (i : Nat) * -1 = (c : Nat) := by omega
              have z4 : (TT : Int) - 1 + (i : Nat) * -1 + 1 = ((c + 1 : Nat) : Int) := by omega
              have k1 := rowV_get (n := TT + 1) (f := fun c => if c < t then 0 else if c + i < TT then M t c else dueN (M t) h (TT - c) c) (b := c) (by omega)
              have k2 := rowV_get (n := TT + 1) (f := fun c => if c < t then 0 else if c + i < TT then M t c else dueN (M t) h (TT - c) c) (b := c + 1) (by omega)
              rw [if_neg (by omega), if_pos (by omega)] at k1
              rw [if_neg (by omega), if_neg (by omega)] at k2
              refine gnE ?_
              refine ⟨_, rfl, _, rfl, r, _, _, _, rfl, rfl, SqL.of g7, at_of z3 k1, _, rfl, _, rfl, _, _, rfl, rfl, r, _, _, _, rfl, rfl, SqL.of g7, at_of z4 k2, _, rfl, _, _, rfl, rfl, _, _, rfl, ?_⟩
              refine ⟨_, rfl, _, rfl, r, _, _, c, rfl, rfl, g7, ?_, ?_⟩
              · rw [z3, rowV_len]
                exact ix_nat (by omega)
              · rw [rowV_set, max2]
                refine ⟨_, rfl, b7.upd, ?_⟩
                rw [upd_same]
                congr 2
                refine rowV_congr fun y hy => ?_
                by_cases c1 : y = c
                · subst c1
                  have e1 : TT - y = (TT - (y + 1)) + 1 := by omega
                  rw [if_pos rfl, if_neg (by omega), if_neg (by omega), e1]
                  rfl
                · rw [if_neg c1]
                  by_cases c2 : y < t
                  · rw [if_pos c2, if_pos c2]
                  · rw [if_neg c2, if_neg c2]
                    by_cases c3 : y + i < TT
                    · rw [if_pos c3, if_pos (by omega)]
                    · rw [if_neg c3, if_neg (by omega)]
            · rintro σ H7 ⟨v5, rfl, b7, g7⟩
              refine hN _ _ ⟨_, rfl, b7, ?_⟩
              rw [g7]
              congr 2
              refine rowV_congr fun y hy => ?_
              unfold dueT dueP
              by_cases c2 : y < t
              · rw [if_pos c2, if_pos c2]
              · rw [if_neg c2, if_neg c2, if_neg (by omega)]
        · rintro σ H7 ⟨v5, rfl, b7, g7⟩
          have rD : r ≠ D := fun z => by
            rw [z] at hr
            rw [(s34.trans s5) _ _ hD2] at hr
            cases hr
          have e7 : Same H H7 := fun b o hb => b7 _ _ (e6 _ _ hb) fun z => by rw [z, hr0] at hb; cases hb
          have hD7 : H7 D = some (.lst (rs.map V.ref)) := b7 _ _ ((s34.trans s46) _ _ hD2) fun z => rD z.symm
          refine ⟨_, rfl, .inl ⟨rfl, _, SqL.of hD7⟩, _, rfl, D, _, _, rfl, rfl, hD7, line_lt (by rw [List.length_map]; omega), ?_⟩
          refine ⟨_, _, _, rfl, same_mut e7 hD, rs ++ [r], by rw [upd_same, List.map_append]; rfl, by rw [List.length_append, hrl]; rfl, fun a q hq => ?_⟩
          have hin : H7 q = some (.lst (rowV (TT + 1) (dueT M TT h a))) := by
            rcases Nat.lt_or_ge a rs.length with c | c
            · rw [List.getElem?_append_left c] at hq
              have h0 := hrs a q hq
              refine b7 _ _ ((s34.trans s46) _ _ h0) fun z => ?_
              rw [z] at h0
              rw [(s34.trans s5) _ _ h0] at hr
              cases hr
            · rw [List.getElem?_append_right c] at hq
              have e1 : a - rs.length = 0 := by
                rcases Nat.lt_or_ge (a - rs.length) 1 with p | p
                · omega
                · rw [List.getElem?_eq_none (by simpa using p)] at hq
                  cases hq
              rw [e1] at hq
              cases hq
              have e2 : a = t := by omega
              rw [e2]
              exact g7
          rw [upd_ne fun z => ?_]
          · exact hin
          · rw [z, hD7] at hin
            have e1 := congrArg (fun l => l[0]?) (HO.lst.inj (Option.some.inj hin))
            have e2 := rowV_get (n := TT + 1) (f := dueT M TT h a) (b := 0) (by omega)
            simp only [e2, List.getElem?_map] at e1
            cases q : rs[0]? with
            | none => rw [q] at e1; cases e1
            | some x => rw [q] at e1; cases e1
    · rintro σ H2 ⟨v4, v5, v6, rfl, e2, rs, hD2, hrl, hrs⟩
      exact ⟨_, rfl, k D H2 hD e2 ⟨rs, hD2, hrl, hrs⟩⟩
end
end K05
end
section
set_option maxRecDepth 100000
set_option maxHeartbeats 4000000
namespace K05
open PySem PySem.Spec PyProof.Rows L2
/-- enough by this day -/
def En (f : Nat → Int) (h due : Int) (c d : Nat) : Prop := f d - h * ((d : Int) - (c : Int)) ≥ due
def CP (M : Nat → Nat → Int) (T : Nat) (h : Option Int) (t c v : Nat) : Prop :=
  match h with
  | none => v = c
  | some h => c ≤ v ∧ v ≤ T ∧ (v < T → En (M t) h (dueP M T (some h) t c) c v) ∧ ∀ d, c ≤ d → d < v → ¬ En (M t) h (dueP M T (some h) t c) c d
theorem CP.uniq {M : Nat → Nat → Int} {T t c v v' : Nat} : ∀ {h : Option Int}, CP M T h t c v → CP M T h t c v' → v = v'
  | none, h1, h2 => by rw [show v = c from h1, show v' = c from h2]
  | some h, ⟨a1, a2, a3, a4⟩, ⟨b1, b2, b3, b4⟩ => by
    rcases Nat.lt_trichotomy v v' with q | q | q
    · exact absurd (a3 (by omega)) (b4 v a1 q)
    · exact q
    · exact absurd (b3 (by omega)) (a4 v' b1 q)
section
variable {P : Program} {w : World} {K : PySem.W.Frag} {mg : Str → Option Value} {base : Heap}
def spCatchDay : Sp := fun vs H Q _ => ∃ (T : Nat) (g : Addr) (M : Nat → Nat → Int) (h : Option Int) (t c : Nat), vs = [.ref g, .int T, hV h, .int t, .int c] ∧ RowsAt H g M (T + 1) ∧ T ≤ 24 ∧ t ≤ c ∧ c ≤ T ∧ (∀ n, h = some n → 0 ≤ n) ∧ ∀ (v : Nat) H', Same H H' → CP M T h t c v → Q (.int v) H'
theorem ok_catch_day (T : Txt w K mg) : Ok P w K mg base CX0 2 "catch_day" ["grid", "days", "ditch", "t", "c"] spCatchDay := by
  refine Ok.def0 (f_catch_day T) (fun _ _ _ _ _ _ us hl => match us, hl with | [_, _, _, _, _], _ => rfl) sc_catch_day (fun vs H Q E h => ?_) (fun f cdv A outer s H vs Q E hr h => ?_)
  · obtain ⟨TT, g, M, h, t, c, rfl, _⟩ := h
    rfl
  · obtain ⟨TT, g, M, h, t, c, rfl, hG, hT, htc, hcT, hh, k⟩ := h
    refine ⟨_, (pss_cons (ps_if (pt_cmpR op_isN (pv 2) pe_non (nomark _)) (pss_one (ps_ret (pv 4))) pss_nil)
      (pss_cons (ps_set (i := 5) sc_catch_day.nd rfl (by first | exact Or.inl rfl | exact Or.inr rfl) (pe_ix (ix_seqK (K := K) rfl) (pe_ix (ix_seqK (K := K) rfl) (pe_ok (ok_due_rows T) (hr.mono (by first | decide | omega)) rfl pass0 (pa_cons (pv 0) (pa_cons (pv 1) (pa_cons (pv 2) pa_nil)))) (pv 3) (fun _ _ => rfl)) (pv 4) (fun _ _ => rfl)))
      (pss_cons (ps_for PassesOwn.never rfl (pi_range2 rfl (n_range T) (pa_cons (pv 4) (pa_cons (pv 1) pa_nil))) (pg_name (i := 6) sc_catch_day.nd rfl (by first | exact Or.inl rfl | exact Or.inr rfl))
        (pss_one (ps_if (pt_cmpR op_ge (pe_op op_sub (pe_ix (ix_seqK (K := K) rfl) (pe_ix (ix_listK (K := K) rfl) (pv 0) (pv 3) (fun _ _ => rfl)) (pv 6) (fun _ _ => rfl)) (pe_op op_mul (pv 2) (pe_op op_sub (pv 6) (pv 4)))) (pv 5) (nomark _)) (pss_one (ps_ret (pv 6))) pss_nil)))
      (pss_one (ps_ret (pv 1)))))), ?_⟩
    cases h with
    | none =>
      refine ⟨_, rfl, rfl, _, rfl, ?_⟩
      rw [in_none]
      exact iteT ⟨_, rfl, k c H (Same.refl H) rfl⟩
    | some h =>
      have hh := hh h rfl
      refine ⟨_, rfl, rfl, _, rfl, ?_⟩
      rw [in_some]
      refine iteF ⟨_, rfl, _, rfl, _, rfl, TT, g, M, some h, rfl, hG, hT, fun d H1 hd s1 hR => ?_⟩
      obtain ⟨rs, r, q1, q2, q3, q4⟩ := hR.get (a := t) (b := c) (by omega) (by omega)
      have z1 : (t : Int) = ((t : Nat) : Int) := rfl
      refine ⟨_, rfl, .inl ⟨d, _, _, _, rfl, rfl, SqL.of q1, at_of rfl q2, _, rfl, .inl ⟨r, _, _, _, rfl, rfl, SqL.of q3, at_of rfl q4, ?_⟩⟩⟩
      have ed : dueT M TT (some h) t c = dueP M TT (some h) t c := by unfold dueT; rw [if_neg (by omega)]
      rw [ed]
      have hG1 := hG.same s1
      refine ⟨_, rfl, _, rfl, _, _, rfl, by omega, for_upto (lo := (c : Int)) (L := TT - c) (by omega) (fun i σ H' => ∃ v6, σ = [some (.ref g), some (.int TT), some (.int h), some (.int t), some (.int c), some (.int (dueP M TT (some h) t c)), v6] ∧ H' = H1 ∧ ∀ d, c ≤ d → d < c + i → ¬ En (M t) h (dueP M TT (some h) t c) c d) ⟨_, rfl, rfl, fun d h1 h2 => by omega⟩ ?_ ?_⟩
      · rintro i σ H' hi ⟨v6, rfl, rfl, hno⟩
        obtain ⟨rs', r', p1, p2, p3, p4⟩ := hG1.get (a := t) (b := c + i) (by omega) (by omega)
        have z2 : (c : Int) + (i : Int) = ((c + i : Nat) : Int) := by omega
        refine ⟨_, rfl, _, rfl, g, _, _, _, rfl, rfl, SqL.of p1, at_of rfl p2, _, rfl, .inl ⟨r', _, _, _, rfl, rfl, SqL.of p3, at_of z2 p4, ?_⟩⟩
        refine ⟨_, rfl, _, rfl, _, rfl, _, _, rfl, rfl, _, _, rfl, rfl, .inr (by constructor <;> omega), _, _, rfl, rfl, _, rfl, _, _, rfl, rfl, _, rfl, ?_⟩
        refine ite2 (fun c1 => ?_) (fun c1 => ?_)
        · refine ⟨_, rfl, ?_⟩
          rw [z2]
          refine k (c + i) _ s1 ⟨by omega, by omega, fun _ => ?_, hno⟩
          have := of_decide_eq_true c1
          rw [z2] at this
          exact this
        · refine ⟨_, rfl, rfl, fun d h1 h2 => ?_⟩
          by_cases e : d = c + i
          · subst e
            intro hb
            refine c1 (decide_eq_true ?_)
            rw [z2]
            exact hb
          · exact hno d h1 (by omega)
      · rintro σ H' ⟨v6, rfl, rfl, hno⟩
        exact ⟨_, rfl, k TT _ s1 ⟨hcT, Nat.le_refl _, fun z => by omega, fun d h1 h2 => hno d h1 (by omega)⟩⟩
end
end K05
end
section
set_option maxRecDepth 100000
set_option maxHeartbeats 4000000
namespace L2
open PySem PySem.Spec PyProof.Rows
/-! ### tables by couples of whole numbers -/
abbrev key2 (t c : Nat) : List Key := [.inl (t : Int), .inl (c : Int)]
theorem key2_inj {t c t' c' : Nat} (h : key2 t c = key2 t' c') : t = t' ∧ c = c' := by
  simp only [key2, List.cons.injEq, Sum.inl.injEq] at h
  omega
theorem key2_kV {t c : Nat} : (key2 t c).map kV = [.int (t : Int), .int (c : Int)] := rfl
section
variable {κ : Type} [DecidableEq κ]
theorem valV_none : ∀ {ks : List (κ × V)} {k : κ}, (∀ p ∈ ks, p.1 ≠ k) → valV ks k = none
  | [], _, _ => rfl
  | p :: r, k, h => by
    rw [valV_neg (h p List.mem_cons_self)]
    exact valV_none fun q hq => h q (List.mem_cons_of_mem _ hq)
theorem valV_mem : ∀ {ks : List (κ × V)}, ks.Pairwise (fun a b => a.1 ≠ b.1) → ∀ p ∈ ks, valV ks p.1 = some p.2
  | [], _, p, hp => by cases hp
  | a :: r, h, p, hp => by
    rw [List.pairwise_cons] at h
    rcases List.mem_cons.mp hp with rfl | hp
    · exact valV_pos rfl
    · rw [valV_neg (h.1 p hp)]
      exact valV_mem h.2 p hp
end
/-- k cells of row t, from the diagonal on -/
def rowT (M : Nat → Nat → Int) (t k : Nat) : List (List Key × V) := (List.range k).map fun j => (key2 t (t + j), V.int (M t (t + j)))
/-- the first i rows -/
def tabL (M : Nat → Nat → Int) (T i : Nat) : List (List Key × V) := (List.range i).flatMap fun t => rowT M t (T + 1 - t)
theorem tabL_succ {M : Nat → Nat → Int} {T i : Nat} : tabL M T (i + 1) = tabL M T i ++ rowT M i (T + 1 - i) := by
  unfold tabL
  rw [List.range_succ, List.flatMap_append]
  simp
theorem rowT_succ {M : Nat → Nat → Int} {t k : Nat} : rowT M t (k + 1) = rowT M t k ++ [(key2 t (t + k), V.int (M t (t + k)))] := by
  unfold rowT
  rw [List.range_succ, List.map_append]
  rfl
theorem rowT_mem {M : Nat → Nat → Int} {t k : Nat} {p : List Key × V} (h : p ∈ rowT M t k) : ∃ j, j < k ∧ p = (key2 t (t + j), V.int (M t (t + j))) := by
  obtain ⟨j, hj, e⟩ := List.mem_map.mp h
  exact ⟨j, List.mem_range.mp hj, e.symm⟩
theorem tabL_mem {M : Nat → Nat → Int} {T i : Nat} {p : List Key × V} (h : p ∈ tabL M T i) : ∃ t c, t < i ∧ t ≤ c ∧ c ≤ T ∧ p = (key2 t c, V.int (M t c)) := by
  obtain ⟨t, ht, hp⟩ := List.mem_flatMap.mp h
  obtain ⟨j, hj, e⟩ := rowT_mem hp
  exact ⟨t, t + j, List.mem_range.mp ht, by omega, by omega, e⟩
theorem rowT_len {M : Nat → Nat → Int} {t k : Nat} : (rowT M t k).length = k := by unfold rowT; rw [List.length_map, List.length_range]
theorem tabL_len {M : Nat → Nat → Int} {T : Nat} (hT : T ≤ 24) : ∀ i, (tabL M T i).length ≤ i * 25
  | 0 => by unfold tabL; simp
  | i + 1 => by
    have := tabL_len (M := M) hT i
    rw [tabL_succ, List.length_append, rowT_len]
    omega
theorem tabL_put {M : Nat → Nat → Int} {T i j : Nat} {v : V} : putK (tabL M T i ++ rowT M i j) (key2 i (i + j)) v = (tabL M T i ++ rowT M i j) ++ [(key2 i (i + j), v)] := by
  refine putK_new _ (valV_none fun p hp e => ?_)
  rcases List.mem_append.mp hp with hp | hp
  · obtain ⟨t, c, h1, h2, h3, rfl⟩ := tabL_mem hp
    have := key2_inj e
    omega
  · obtain ⟨k, h1, rfl⟩ := rowT_mem hp
    have := key2_inj e
    omega
theorem tabL_pw {M : Nat → Nat → Int} {T : Nat} : ∀ i, (tabL M T i).Pairwise fun a b => a.1 ≠ b.1
  | 0 => List.Pairwise.nil
  | i + 1 => by
    rw [tabL_succ, List.pairwise_append]
    refine ⟨tabL_pw i, ?_, fun p hp q hq e => ?_⟩
    · have : ∀ k, (rowT M i k).Pairwise fun a b => a.1 ≠ b.1 := by
        intro k
        induction k with
        | zero => exact List.Pairwise.nil
        | succ k ih =>
          rw [rowT_succ, List.pairwise_append]
          refine ⟨ih, by simp, fun p hp q hq e => ?_⟩
          obtain ⟨j, hj, rfl⟩ := rowT_mem hp
          rw [List.mem_singleton.mp hq] at e
          have := key2_inj e
          omega
      exact this _
    · obtain ⟨t, c, h1, h2, h3, rfl⟩ := tabL_mem hp
      obtain ⟨j, hj, rfl⟩ := rowT_mem hq
      have := key2_inj e
      omega
/-- the whole table -/
def tabM (M : Nat → Nat → Int) (T : Nat) : List (List Key × V) := tabL M T (T + 1)
theorem tabM_ok {M : Nat → Nat → Int} {T : Nat} : ∀ p ∈ tabM M T, ∃ t c, t ≤ c ∧ c ≤ T ∧ p.1 = key2 t c ∧ valV (tabM M T) p.1 = some (.int (M t c)) := fun p hp => by
  have hv := valV_mem (tabL_pw (M := M) (T := T) (T + 1)) p hp
  obtain ⟨t, c, h1, h2, h3, e⟩ := tabL_mem hp
  refine ⟨t, c, h2, h3, by rw [e], ?_⟩
  show valV (tabL M T (T + 1)) p.1 = _
  rw [hv, e]
theorem tabM_len {M : Nat → Nat → Int} {T : Nat} (hT : T ≤ 24) : (tabM M T).length ≤ 1000 := by
  have := tabL_len (M := M) hT (T + 1)
  unfold tabM
  omega
theorem tabM_congr {M M' : Nat → Nat → Int} {T : Nat} (h : ∀ t c, t ≤ c → c ≤ T → M t c = M' t c) : tabM M T = tabM M' T := by
  unfold tabM
  have : ∀ i, i ≤ T + 1 → tabL M T i = tabL M' T i := by
    intro i
    induction i with
    | zero => intro _; rfl
    | succ i ih =>
      intro hi
      rw [tabL_succ, tabL_succ, ih (by omega)]
      congr 1
      unfold rowT
      refine List.map_congr_left fun j hj => ?_
      rw [h i (i + j) (by omega) (by have := List.mem_range.mp hj; omega)]
  exact this _ (Nat.le_refl _)
end L2
end
section
set_option maxRecDepth 100000
set_option maxHeartbeats 4000000
namespace K05
open PySem PySem.Spec PyProof.Rows L2
section
variable {P : Program} {w : World} {K : PySem.W.Frag} {mg : Str → Option Value} {base : Heap}
def spTable : Sp := fun vs H Q _ => ∃ (T : Nat) (d : Addr) (M : Nat → Nat → Int), vs = [.ref d, .int T] ∧ RowsAt H d M (T + 1) ∧ T ≤ 24 ∧ ∀ p H', H p = none → Same H H' → H' p = some (.dT (tabM M T)) → Q (.ref p) H'
theorem ok_due_table (T : Txt w K mg) : Ok P w K mg base CX0 1 "due_table" ["rows", "days"] spTable := by
  refine Ok.def0 (f_due_table T) (fun _ _ _ _ _ _ us hl => match us, hl with | [_, _], _ => rfl) sc_due_table (fun vs H Q E h => ?_) (fun f cdv A outer s H vs Q E hr h => ?_)
  · obtain ⟨TT, d, M, rfl, _⟩ := h
    rfl
  · obtain ⟨TT, d, M, rfl, hR, hT, k⟩ := h
    refine ⟨_, (pss_one (ps_ret (pe_dc2 (own := [("t", 2), ("c", 3)]) (vs1 := [3]) rfl hr.units0 sc_due_table.nd (pi_range1 rfl (n_range T) (pa_cons (pe_op op_add (pv 1) pe_int) pa_nil)) (blkOk_by (N := ["rows", "days", "t", "c"]) (sc := defScope s_due_table) (by decide +kernel)) (by decide) (fun _ _ _ _ _ => (pg_name (i := 2) sc_due_table.nd rfl (by first | exact Or.inl rfl | exact Or.inr rfl))) (fun _ _ _ _ _ => pts_nil) (fun _ _ _ _ _ => (pi_range2 rfl (n_range T) (pa_cons (pv 2) (pa_cons (pe_op op_add (pv 1) pe_int) pa_nil)))) (fun _ _ _ _ _ => (pg_name (i := 3) sc_due_table.nd rfl (by first | exact Or.inl rfl | exact Or.inr rfl))) (fun _ _ _ _ _ => pts_nil) (fun _ _ _ _ _ => (pe_tup (pa_cons (pv 2) (pa_cons (pv 3) pa_nil)))) (fun _ _ _ _ _ => (pe_ix (ix_seqK (K := K) rfl) (pe_ix (ix_listK (K := K) rfl) (pv 0) (pv 2) (fun _ _ => rfl)) (pv 3) (fun _ _ => rfl)))))), ?_⟩
    refine ⟨_, rfl, _, _, rfl, rfl, _, rfl, by omega, by omega, fun D hD => ?_⟩
    refine rng_W (lo := 0) (L := TT + 1) (by omega) (fun i H' => Same H H' ∧ H' D = some (.dT (tabL M TT i))) ⟨same_new hD, upd_same⟩ ?_ ?_
    · rintro i H1 hi ⟨e1, g1⟩
      have z1 : (0 : Int) + (i : Int) = (i : Nat) := by omega
      refine ⟨rfl, ?_⟩
      refine ⟨_, rfl, _, rfl, _, _, rfl, rfl, _, _, rfl, by omega, rng_W (lo := 0 + (i : Int)) (L := TT + 1 - i) (by omega) (fun j H' => Same H H' ∧ H' D = some (.dT (tabL M TT i ++ rowT M i j))) ⟨e1, by rw [g1]; unfold rowT; simp⟩ ?_ ?_⟩
      · rintro j H2 hj ⟨e2, g2⟩
        have z2 : (0 : Int) + (i : Int) + (j : Int) = ((i + j : Nat) : Int) := by omega
        obtain ⟨rs, r, q1, q2, q3, q4⟩ := (hR.same e2).get (a := i) (b := i + j) (by omega) (by omega)
        refine ⟨rfl, ?_⟩
        refine ⟨_, rfl, _, rfl, (by show 2 ≤ sizeLine; decide), fun t ht => ?_⟩
        have z3 : (i : Int) + (j : Int) = ((i + j : Nat) : Int) := by omega
        rw [z1, z3]
        obtain ⟨s3, g3⟩ := new2 (.tup [.int (i : Int), .int ((i + j : Nat) : Int)]) ht
        refine ⟨_, rfl, _, rfl, d, _, _, _, rfl, rfl, SqL.of (s3 _ _ q1), at_of rfl q2, _, rfl, .inl ⟨r, _, _, _, rfl, rfl, SqL.of (s3 _ _ q3), at_of rfl q4, t, _, key2 i (i + j), rfl, g3, s3 _ _ g2, line_lt ?_, same_mut (e2.trans s3) hD, ?_⟩⟩
        · have := tabL_len (M := M) hT i
          rw [List.length_append, rowT_len]
          omega
        · rw [upd_same, tabL_put, rowT_succ, List.append_assoc]
      · rintro H2 ⟨e2, g2⟩
        exact ⟨e2, by rw [tabL_succ]; exact g2⟩
    · rintro H1 ⟨e1, g1⟩
      exact k D H1 hD e1 g1
end
end K05
end
section
set_option maxRecDepth 100000
set_option maxHeartbeats 4000000
namespace K05
open PySem PySem.Spec PyProof.Rows L2
theorem gf_no {d : Int} {l : Addr} {x : Str} (h1 : (x == ("days_number" : Str)) = false) (h2 : (x == ("seed_list" : Str)) = false) : (gf d l).lookup x = none := by
  simp [List.lookup, h1, h2]
theorem GardenAt.nm {K : PySem.W.Frag} {H : Hp} {p : Addr} {d : Int} {ws : List (Int × Int)} (h : GardenAt K H p d ws) {x : Str} (h1 : (x == ("days_number" : Str)) = false) (h2 : (x == ("seed_list" : Str)) = false) : ∃ dx fs, H p = some (.ins (cG K) dx fs) ∧ fs.lookup x = none := by
  obtain ⟨dx, l, xs, a, _⟩ := h
  exact ⟨dx, gf d l, a, gf_no h1 h2⟩
/-- what a garden raises at a ditch -/
structure DErr (K : PySem.W.Frag) (E : XK) (H : Hp) (M : Nat → Nat → Int) (T : Nat) (h : Option Int) : Prop where
  cans : ∀ n, h = some n → 10 ^ 12 < n → Rz E H (cTM K) "what" (.str "cans")
  sign : ∀ n, h = some n → n < 0 → Rz E H (cBS K) "what" (.str "ditch")
  unfit : ∀ n, h = some n → 0 ≤ n → n ≤ 10 ^ 12 → (∃ a b, a < b ∧ b ≤ T ∧ Bad M n a b) → Rz E H (cBS K) "what" (.str "ditch")
def DOk (M : Nat → Nat → Int) (T : Nat) (h : Option Int) : Prop := ∀ n, h = some n → 0 ≤ n ∧ n ≤ 10 ^ 12 ∧ ∀ a b, a < b → b ≤ T → ¬ Bad M n a b
theorem FB.none_ok {M : Nat → Nat → Int} {T : Nat} : ∀ {h : Option Int}, FB M T h none → ∀ n, h = some n → ∀ a b, a < b → b ≤ T → ¬ Bad M n a b
  | none, _, n, e => by cases e
  | some h, g, n, e => by cases e; exact g
theorem FB.some_bad {M : Nat → Nat → Int} {T : Nat} {p : Nat × Nat} : ∀ {h : Option Int}, FB M T h (some p) → ∃ n, h = some n ∧ ∃ a b, a < b ∧ b ≤ T ∧ Bad M n a b
  | none, g => by cases (show some p = none from g)
  | some h, g => ⟨h, rfl, p.1, p.2, g.1, g.2.1, g.2.2.1⟩
theorem DErr.up {K : PySem.W.Frag} {E : XK} {H H1 : Hp} {M : Nat → Nat → Int} {T : Nat} {h : Option Int} (g : DErr K E H M T h) (e : Same H H1) : DErr K E H1 M T h :=
  ⟨fun n a b => Rz.up (g.cans n a b) e, fun n a b => Rz.up (g.sign n a b) e, fun n a b c d => Rz.up (g.unfit n a b c d) e⟩
section
variable {P : Program} {w : World} {K : PySem.W.Frag} {mg : Str → Option Value} {base : Heap}
def GOk (K : PySem.W.Frag) (H : Hp) (p : Addr) (T : Nat) (ws : List (Int × Int)) : Prop := GardenAt K H p T ws ∧ T ≤ 24 ∧ ws.length ≤ 120 ∧ ∀ c ∈ ws, VW T c
theorem GOk.same {H H' : Hp} {p : Addr} {T : Nat} {ws : List (Int × Int)} (e : Same H H') (h : GOk K H p T ws) : GOk K H' p T ws := ⟨h.1.same e, h.2⟩
def spGUnfit (K : PySem.W.Frag) : Sp := fun vs H Q E => ∃ (p : Addr) (T : Nat) (ws : List (Int × Int)) (h : Option Int), vs = [.ref p, hV h] ∧ GOk K H p T ws ∧ (∀ n, h = some n → 10 ^ 12 < n → Rz E H (cTM K) "what" (.str "cans")) ∧ (∀ n, h = some n → n < 0 → Rz E H (cBS K) "what" (.str "ditch")) ∧
  ((∀ n, h = some n → 0 ≤ n ∧ n ≤ 10 ^ 12) → ∀ v r H', Same H H' → UV H' v r → FB (gM ws) T h r → Q v H')
theorem okm_Garden_unfit (T : Txt w K mg) : OkM P w K mg base (L2.CX P w) 6 (cG K) "unfit" ["self", "ditch"] (spGUnfit K) := by
  refine OkM.defX (fm_Garden_unfit T) (me_Garden_unfit T) (fun _ _ _ _ _ _ us hl => match us, hl with | [_, _], _ => rfl) sc_Garden_unfit (fun vs H Q E h => ?_) (fun cdv A outer s H vs Q E hr h tk => ?_)
  · obtain ⟨p, TT, ws, h, rfl, _⟩ := h
    rfl
  · obtain ⟨p, TT, ws, h, rfl, ⟨⟨dx, l, xs, h1, h2, h3⟩, hT, hl, hV⟩, e1, e2, k⟩ := h
    refine ⟨_, (pss_cons (ps_expr (pe_okS (ok_check_ditch T) (hr.mono (by first | decide | omega)) rfl (fun σ => passAt tk σ) (pa_cons (pv 1) pa_nil)))
      (pss_cons (ps_expr (pe_okS (ok_check_ditch_sign T) (hr.mono (by first | decide | omega)) rfl (fun σ => passAt tk σ) (pa_cons (pv 1) pa_nil)))
      (pss_one (ps_ret (pe_ok (ok_first_unfit T) (hr.mono (by first | decide | omega)) rfl pass0 (pa_cons (pe_ok (ok_count_grid T) (hr.mono (by first | decide | omega)) rfl pass0 (pa_cons (pe_fld (pv 0) rfl) (pa_cons (pe_fld (pv 0) rfl) pa_nil))) (pa_cons (pe_fld (pv 0) rfl) (pa_cons (pv 1) pa_nil)))))))), ?_⟩
    refine ⟨_, rfl, h, rfl, fun c1 => ?_, e1⟩
    refine ⟨_, rfl, h, rfl, fun c2 => ?_, e2⟩
    have k := k fun n e => ⟨c2 n e, c1 n e⟩
    refine ⟨_, rfl, p, _, dx, _, _, rfl, h1, cl_Garden T, na_Garden_days_number T, gf_days TT l, ?_⟩
    refine ⟨_, rfl, p, _, dx, _, _, rfl, h1, cl_Garden T, na_Garden_seed_list T, gf_seeds TT l, ?_⟩
    refine ⟨TT, l, xs, ws, rfl, h2, h3, hT, hl, hV, fun g H1 hg s1 hG => ?_⟩
    refine ⟨_, rfl, p, _, dx, _, _, rfl, s1 _ _ h1, cl_Garden T, na_Garden_days_number T, gf_days TT l, ?_⟩
    exact ⟨_, rfl, TT, g, gM ws, h, rfl, hG.rows, hT, fun v r H2 s2 hv hf => k v r H2 (s1.trans s2) hv hf⟩
def spGFit (K : PySem.W.Frag) : Sp := fun vs H Q E => ∃ (p : Addr) (T : Nat) (ws : List (Int × Int)) (h : Option Int), vs = [.ref p, hV h] ∧ GOk K H p T ws ∧ DErr K E H (gM ws) T h ∧ (DOk (gM ws) T h → ∀ H', Same H H' → Q .non H')
theorem okm_Garden_check_fit (T : Txt w K mg) : OkM P w K mg base (L2.CX P w) 7 (cG K) "check_fit" ["self", "ditch"] (spGFit K) := by
  refine OkM.defX (fm_Garden_check_fit T) (me_Garden_check_fit T) (fun _ _ _ _ _ _ us hl => match us, hl with | [_, _], _ => rfl) sc_Garden_check_fit (fun vs H Q E h => ?_) (fun cdv A outer s H vs Q E hr h tk => ?_)
  · obtain ⟨p, TT, ws, h, rfl, _⟩ := h
    rfl
  · obtain ⟨p, TT, ws, h, rfl, hG, g, k⟩ := h
    obtain ⟨dx, l, xs, h1, h2, h3⟩ := id hG.1
    refine ⟨_, (pss_one (ps_if (pt_cmpR op_notN (pe_okM (okm_Garden_unfit T) (cl_Garden T) (pv 0) (hr.mono (by first | decide | omega)) (passes_call tk (fun _ _ _ _ h => h)) (pa_cons (pv 1) pa_nil)) pe_non (nomark _)) (pss_one (ps_raise rfl tk (pmk_x (x_BadSetting T) (hr.mono (by first | decide | omega)) rfl (pa_cons pe_str pa_nil)))) pss_nil)), ?_⟩
    refine ⟨_, rfl, p, dx, _, rfl, h1, gf_no (by decide +kernel) (by decide +kernel), _, rfl, p, TT, ws, h, rfl, hG, g.cans, g.sign, fun c1 v r H1 s1 hv hf => ?_⟩
    cases r with
    | none =>
      obtain rfl : v = .non := hv
      refine ⟨rfl, _, rfl, ?_⟩
      have e : (!decide (V.non = V.non)) = false := by simp
      rw [e]
      refine iteF (k (fun n e => ?_) H1 s1)
      have c2 := c1 n e
      exact ⟨c2.1, c2.2, hf.none_ok n e⟩
    | some q =>
      obtain ⟨t, rfl, ht⟩ := hv
      refine ⟨rfl, _, rfl, ?_⟩
      have e : (!decide (V.ref t = V.non)) = true := by simp
      rw [e]
      obtain ⟨n, e, hb⟩ := hf.some_bad
      have c2 := c1 n e
      exact iteT (mko ((g.unfit n e c2.1 c2.2 hb).at s1))
def spGDueGrid (K : PySem.W.Frag) : Sp := fun vs H Q _ => ∃ (p : Addr) (T : Nat) (ws : List (Int × Int)) (h : Option Int), vs = [.ref p, hV h] ∧ GOk K H p T ws ∧ ∀ d H', H d = none → Same H H' → RowsAt H' d (dueT (gM ws) T h) (T + 1) → Q (.ref d) H'
theorem okm_Garden_due_grid (T : Txt w K mg) : OkM P w K mg base CX0 2 (cG K) "due_grid" ["self", "ditch"] (spGDueGrid K) := by
  refine OkM.def0 (fm_Garden_due_grid T) (me_Garden_due_grid T) (fun _ _ _ _ _ _ us hl => match us, hl with | [_, _], _ => rfl) sc_Garden_due_grid (fun vs H Q E h => ?_) (fun cdv A outer s H vs Q E hr h => ?_)
  · obtain ⟨p, TT, ws, h, rfl, _⟩ := h
    rfl
  · obtain ⟨p, TT, ws, h, rfl, ⟨⟨dx, l, xs, h1, h2, h3⟩, hT, hl, hV⟩, k⟩ := h
    refine ⟨_, (pss_one (ps_ret (pe_ok (ok_due_rows T) (hr.mono (by first | decide | omega)) rfl pass0 (pa_cons (pe_ok (ok_count_grid T) (hr.mono (by first | decide | omega)) rfl pass0 (pa_cons (pe_fld (pv 0) rfl) (pa_cons (pe_fld (pv 0) rfl) pa_nil))) (pa_cons (pe_fld (pv 0) rfl) (pa_cons (pv 1) pa_nil)))))), ?_⟩
    refine ⟨_, rfl, p, _, dx, _, _, rfl, h1, cl_Garden T, na_Garden_days_number T, gf_days TT l, ?_⟩
    refine ⟨_, rfl, p, _, dx, _, _, rfl, h1, cl_Garden T, na_Garden_seed_list T, gf_seeds TT l, ?_⟩
    refine ⟨TT, l, xs, ws, rfl, h2, h3, hT, hl, hV, fun g H1 hg s1 hG => ?_⟩
    refine ⟨_, rfl, p, _, dx, _, _, rfl, s1 _ _ h1, cl_Garden T, na_Garden_days_number T, gf_days TT l, ?_⟩
    exact ⟨_, rfl, TT, g, gM ws, h, rfl, hG.rows, hT, fun d H2 hd s2 hR => k d H2 (none_of s1 hd) (s1.trans s2) hR⟩
def spGDues (K : PySem.W.Frag) : Sp := fun vs H Q E => ∃ (p : Addr) (T : Nat) (ws : List (Int × Int)) (h : Option Int), vs = [.ref p, hV h] ∧ GOk K H p T ws ∧ DErr K E H (gM ws) T h ∧ (DOk (gM ws) T h → ∀ d H', H d = none → Same H H' → H' d = some (.dT (tabM (dueP (gM ws) T h) T)) → Q (.ref d) H')
theorem okm_Garden_dues (T : Txt w K mg) : OkM P w K mg base (L2.CX P w) 8 (cG K) "dues" ["self", "ditch"] (spGDues K) := by
  refine OkM.defX (fm_Garden_dues T) (me_Garden_dues T) (fun _ _ _ _ _ _ us hl => match us, hl with | [_, _], _ => rfl) sc_Garden_dues (fun vs H Q E h => ?_) (fun cdv A outer s H vs Q E hr h tk => ?_)
  · obtain ⟨p, TT, ws, h, rfl, _⟩ := h
    rfl
  · obtain ⟨p, TT, ws, h, rfl, hG, g, k⟩ := h
    obtain ⟨dx, l, xs, h1, h2, h3⟩ := id hG.1
    refine ⟨_, (pss_cons (ps_expr (pe_okM (okm_Garden_check_fit T) (cl_Garden T) (pv 0) (hr.mono (by first | decide | omega)) (passes_call tk (fun _ _ _ _ h => h)) (pa_cons (pv 1) pa_nil)))
      (pss_one (ps_ret (pe_ok (ok_due_table T) (hr.mono (by first | decide | omega)) rfl pass0 (pa_cons (pe_okM (okm_Garden_due_grid T) (cl_Garden T) (pv 0) (hr.mono (by first | decide | omega)) pass0 (pa_cons (pv 1) pa_nil)) (pa_cons (pe_fld (pv 0) rfl) pa_nil)))))), ?_⟩
    refine ⟨_, rfl, p, dx, _, rfl, h1, gf_no (by decide +kernel) (by decide +kernel), _, rfl, p, TT, ws, h, rfl, hG, g, fun ok H1 s1 => ?_⟩
    refine ⟨_, rfl, p, dx, _, rfl, s1 _ _ h1, gf_no (by decide +kernel) (by decide +kernel), _, rfl, p, TT, ws, h, rfl, hG.same s1, fun d H2 hd s2 hR => ?_⟩
    have e2 := s1.trans s2
    refine ⟨_, rfl, p, _, dx, _, _, rfl, e2 _ _ h1, cl_Garden T, na_Garden_days_number T, gf_days TT l, ?_⟩
    refine ⟨TT, d, _, rfl, hR, hG.2.1, fun q H3 hq s3 hQ => k ok q H3 (none_of e2 hq) (e2.trans s3) ?_⟩
    rw [hQ]
    congr 2
    exact tabM_congr fun t c h1 h2 => by unfold dueT; rw [if_neg (by omega)]
def spGCatch (K : PySem.W.Frag) : Sp := fun vs H Q E => ∃ (p : Addr) (T : Nat) (ws : List (Int × Int)) (h : Option Int) (t c : Int), vs = [.ref p, hV h, .int t, .int c] ∧ GOk K H p T ws ∧ DErr K E H (gM ws) T h ∧ (DOk (gM ws) T h → ∀ x, badS T t c = some x → Rz E H (cBD K) "day" (.int x)) ∧
  (DOk (gM ws) T h → ∀ (t' c' : Nat), t = t' → c = c' → t' ≤ c' → c' ≤ T → ∀ (v : Nat) H', Same H H' → CP (gM ws) T h t' c' v → Q (.int v) H')
theorem okm_Garden_catch (T : Txt w K mg) : OkM P w K mg base (L2.CX P w) 8 (cG K) "catch" ["self", "ditch", "t", "c"] (spGCatch K) := by
  refine OkM.defX (fm_Garden_catch T) (me_Garden_catch T) (fun _ _ _ _ _ _ us hl => match us, hl with | [_, _, _, _], _ => rfl) sc_Garden_catch (fun vs H Q E h => ?_) (fun cdv A outer s H vs Q E hr h tk => ?_)
  · obtain ⟨p, TT, ws, h, t, c, rfl, _⟩ := h
    rfl
  · obtain ⟨p, TT, ws, h, t, c, rfl, hG, g, kx, k⟩ := h
    obtain ⟨dx, l, xs, h1, h2, h3⟩ := id hG.1
    obtain ⟨_, hT, hl, hV⟩ := id hG
    refine ⟨_, (pss_cons (ps_expr (pe_okM (okm_Garden_check_fit T) (cl_Garden T) (pv 0) (hr.mono (by first | decide | omega)) (passes_call tk (fun _ _ _ _ h => h)) (pa_cons (pv 1) pa_nil)))
      (pss_cons (ps_expr (pe_okS (ok_check_stretch T) (hr.mono (by first | decide | omega)) rfl (fun σ => passAt tk σ) (pa_cons (pv 2) (pa_cons (pv 3) (pa_cons (pe_fld (pv 0) rfl) pa_nil)))))
      (pss_one (ps_ret (pe_ok (ok_catch_day T) (hr.mono (by first | decide | omega)) rfl pass0 (pa_cons (pe_ok (ok_count_grid T) (hr.mono (by first | decide | omega)) rfl pass0 (pa_cons (pe_fld (pv 0) rfl) (pa_cons (pe_fld (pv 0) rfl) pa_nil))) (pa_cons (pe_fld (pv 0) rfl) (pa_cons (pv 1) (pa_cons (pv 2) (pa_cons (pv 3) pa_nil)))))))))), ?_⟩
    refine ⟨_, rfl, p, dx, _, rfl, h1, gf_no (by decide +kernel) (by decide +kernel), _, rfl, p, TT, ws, h, rfl, hG, g, fun ok H1 s1 => ?_⟩
    refine ⟨_, rfl, _, rfl, _, rfl, p, _, dx, _, _, rfl, s1 _ _ h1, cl_Garden T, na_Garden_days_number T, gf_days TT l, ?_⟩
    refine ⟨t, c, TT, rfl, fun hb => ?_, fun x hx => Rz.up (kx ok x hx) s1⟩
    obtain ⟨t', c', rfl, rfl, htc, hcT⟩ : ∃ t' c' : Nat, t = t' ∧ c = c' ∧ t' ≤ c' ∧ c' ≤ TT := by
      unfold badS at hb
      split at hb
      · cases hb
      · split at hb
        · cases hb
        · split at hb
          · cases hb
          · exact ⟨t.toNat, c.toNat, by omega, by omega, by omega, by omega⟩
    refine ⟨_, rfl, p, _, dx, _, _, rfl, s1 _ _ h1, cl_Garden T, na_Garden_days_number T, gf_days TT l, ?_⟩
    refine ⟨_, rfl, p, _, dx, _, _, rfl, s1 _ _ h1, cl_Garden T, na_Garden_seed_list T, gf_seeds TT l, ?_⟩
    refine ⟨TT, l, xs, ws, rfl, s1 _ _ h2, Paired.mapP h3 fun _ _ z => z.same s1, hT, hl, hV, fun g1 H2 hg1 s2 hGr => ?_⟩
    have e2 := s1.trans s2
    refine ⟨_, rfl, p, _, dx, _, _, rfl, e2 _ _ h1, cl_Garden T, na_Garden_days_number T, gf_days TT l, ?_⟩
    exact ⟨_, rfl, _, rfl, _, rfl, TT, g1, gM ws, h, t', c', rfl, hGr.rows, hT, htc, hcT, (fun n e => (ok n e).1), fun v H3 s3 hv => k ok t' c' rfl rfl htc hcT v H3 (e2.trans s3) hv⟩
end
end K05
end
section
set_option maxRecDepth 100000
set_option maxHeartbeats 4000000
namespace K05
open PySem PySem.Spec PyProof.Rows L2
/-- the greatest of what falls due by a day -/
def IsDue (f : Nat → Int) (h : Int) (c e : Nat) (v : Int) : Prop := (∃ d, c ≤ d ∧ d ≤ e ∧ v = f d - h * ((d : Int) - (c : Int))) ∧ ∀ d, c ≤ d → d ≤ e → f d - h * ((d : Int) - (c : Int)) ≤ v
theorem IsDue.uniq {f : Nat → Int} {h : Int} {c e : Nat} {v v' : Int} (a : IsDue f h c e v) (b : IsDue f h c e v') : v = v' := by
  obtain ⟨⟨d, d1, d2, rfl⟩, a2⟩ := a
  obtain ⟨⟨d', e1, e2, rfl⟩, b2⟩ := b
  have := a2 d' e1 e2
  have := b2 d d1 d2
  omega
theorem dueN_is (f : Nat → Int) (h : Int) : ∀ (k c : Nat), IsDue f h c (c + k) (dueN f h k c)
  | 0, c => by
    refine ⟨⟨c, Nat.le_refl _, Nat.le_refl _, ?_⟩, fun d h1 h2 => ?_⟩
    · show f c = _
      rw [Int.sub_self, Int.mul_zero, Int.sub_zero]
    · have : d = c := by omega
      subst this
      rw [Int.sub_self, Int.mul_zero, Int.sub_zero]
      exact Int.le_refl _
  | k + 1, c => by
    obtain ⟨⟨d, d1, d2, e⟩, a2⟩ := dueN_is f h k (c + 1)
    have st : ∀ d : Nat, f d - h * ((d : Int) - ((c + 1 : Nat) : Int)) - h = f d - h * ((d : Int) - (c : Int)) := fun d => by
      have : (d : Int) - (c : Int) = ((d : Int) - ((c + 1 : Nat) : Int)) + 1 := by omega
      rw [this, Int.mul_add, Int.mul_one]
      omega
    have sc : f c - h * ((c : Int) - (c : Int)) = f c := by rw [Int.sub_self, Int.mul_zero, Int.sub_zero]
    refine ⟨?_, fun d h1 h2 => ?_⟩
    · show ∃ d, c ≤ d ∧ d ≤ c + (k + 1) ∧ max (f c) (dueN f h k (c + 1) - h) = _
      by_cases q : f c ≤ dueN f h k (c + 1) - h
      · refine ⟨d, by omega, by omega, ?_⟩
        rw [Int.max_eq_right q, e, st]
      · refine ⟨c, Nat.le_refl _, by omega, ?_⟩
        rw [Int.max_eq_left (by omega), sc]
    · show _ ≤ max (f c) (dueN f h k (c + 1) - h)
      by_cases q : d = c
      · subst q
        rw [sc]
        exact Int.le_max_left _ _
      · have := a2 d (by omega) (by omega)
        have := st d
        refine Int.le_trans ?_ (Int.le_max_right _ _)
        omega
section
variable {P : Program} {w : World} {K : PySem.W.Frag} {mg : Str → Option Value} {base : Heap}
def spLDue : Sp := fun vs H Q _ => ∃ (T : Nat) (g : Addr) (M : Nat → Nat → Int) (h : Option Int) (t c : Nat), vs = [.int T, .ref g, hV h, .int t, .int c] ∧ RowsAt H g M (T + 1) ∧ T ≤ 24 ∧ t ≤ c ∧ c ≤ T ∧ ∀ H', Same H H' → Q (.int (dueP M T h t c)) H'
theorem ok__law_k05_due (T : Txt w K mg) : Ok P w K mg base CX0 1 "_law_k05_due" ["days", "counts", "h", "t", "c"] spLDue := by
  refine Ok.def0 (f__law_k05_due T) (fun _ _ _ _ _ _ us hl => match us, hl with | [_, _, _, _, _], _ => rfl) sc__law_k05_due (fun vs H Q E h => ?_) (fun f cdv A outer s H vs Q E hr h => ?_)
  · obtain ⟨TT, g, M, h, t, c, rfl, _⟩ := h
    rfl
  · obtain ⟨TT, g, M, h, t, c, rfl, hG, hT, htc, hcT, k⟩ := h
    refine ⟨_, (pss_cons (ps_if (pt_cmpR op_isN (pv 2) pe_non (nomark _)) (pss_one (ps_ret (pe_ix (ix_seqK (K := K) rfl) (pe_ix (ix_listK (K := K) rfl) (pv 1) (pv 3) (fun _ _ => rfl)) (pv 4) (fun _ _ => rfl)))) pss_nil)
      (pss_one (ps_ret (pe_callB (maxK (K := K) rfl rfl) rfl (n_max T) (by decide +kernel) (pa_cons (pe_lc (own := [("d", 5)]) rfl sc__law_k05_due.nd (pi_range2 rfl (n_range T) (pa_cons (pv 4) (pa_cons (pe_op op_add (pv 0) pe_int) pa_nil))) (blkOk_by (N := ["days", "counts", "h", "t", "c", "d"]) (sc := defScope s__law_k05_due) (by decide +kernel)) (fun _ _ _ _ _ => (pg_name (i := 5) sc__law_k05_due.nd rfl (by first | exact Or.inl rfl | exact Or.inr rfl))) (fun _ _ _ _ _ => pts_nil) (fun _ _ _ _ _ => (pe_op op_sub (pe_ix (ix_seqK (K := K) rfl) (pe_ix (ix_listK (K := K) rfl) (pv 1) (pv 3) (fun _ _ => rfl)) (pv 5) (fun _ _ => rfl)) (pe_op op_mul (pv 2) (pe_op op_sub (pv 5) (pv 4)))))) pa_nil))))), ?_⟩
    cases h with
    | none =>
      obtain ⟨rs, r, q1, q2, q3, q4⟩ := hG.get (a := t) (b := c) (by omega) (by omega)
      refine ⟨_, rfl, rfl, _, rfl, ?_⟩
      rw [in_none]
      exact iteT ⟨_, rfl, _, rfl, g, _, _, _, rfl, rfl, SqL.of q1, at_of rfl q2, _, rfl, .inl ⟨r, _, _, _, rfl, rfl, SqL.of q3, at_of rfl q4, k H (Same.refl H)⟩⟩
    | some h =>
      refine ⟨_, rfl, rfl, _, rfl, ?_⟩
      rw [in_some]
      refine iteF ⟨_, rfl, _, rfl, _, _, rfl, rfl, _, _, rfl, by omega, fun D hD => lc_upto (lo := (c : Int)) (L := TT + 1 - c) (by omega) hD (by omega) (fun j acc _ => acc = ((List.range j).map fun i => M t (c + i) - h * (((c + i : Nat) : Int) - (c : Int))).map V.int) (fun _ _ => rfl) ?_ ?_⟩
      · rintro i acc H1 N N0 hi s1 hacc rfl hN hN0
        obtain ⟨rs, r, q1, q2, q3, q4⟩ := (hG.same s1).get (a := t) (b := c + i) (by omega) (by omega)
        have z2 : (c : Int) + (i : Int) = ((c + i : Nat) : Int) := by omega
        refine ⟨rfl, ?_⟩
        refine ⟨_, rfl, _, rfl, g, _, _, _, rfl, rfl, SqL.of q1, at_of rfl q2, _, rfl, .inl ⟨r, _, _, _, rfl, rfl, SqL.of q3, at_of z2 q4, ?_⟩⟩
        refine ⟨_, rfl, _, rfl, _, rfl, _, _, rfl, rfl, _, _, rfl, rfl, .inr (by constructor <;> omega), _, _, rfl, rfl, hN _ _ (Same.refl _) fun _ _ _ => ?_⟩
        rw [List.range_succ, List.map_append, List.map_append]
        show _ ++ [V.int (M t (c + i) - h * ((c : Int) + (i : Int) - (c : Int)))] = _
        rw [z2]
        rfl
      · rintro acc H1 s1 hacc hal rfl
        refine ⟨D, _, rfl, SqL.of hacc, by rw [List.length_map, List.length_range]; omega, fun m hm hmx => ?_⟩
        have e : m = dueP M TT (some h) t c := by
          have d1 := dueN_is (M t) h (TT - c) c
          have e1 : c + (TT - c) = TT := by omega
          rw [e1] at d1
          refine IsDue.uniq (f := M t) (h := h) (c := c) (e := TT) ⟨?_, fun d h1 h2 => ?_⟩ d1
          · obtain ⟨i, hi, rfl⟩ := List.mem_map.mp hm
            have := List.mem_range.mp hi
            exact ⟨c + i, by omega, by omega, rfl⟩
          · refine hmx _ (List.mem_map.mpr ⟨d - c, List.mem_range.mpr (by omega), ?_⟩)
            have : c + (d - c) = d := by omega
            rw [this]
        rw [e]
        exact k _ s1
def spLCatch : Sp := fun vs H Q _ => ∃ (T : Nat) (g : Addr) (M : Nat → Nat → Int) (h : Option Int) (t c : Nat), vs = [.int T, .ref g, hV h, .int t, .int c] ∧ RowsAt H g M (T + 1) ∧ T ≤ 24 ∧ t ≤ c ∧ c ≤ T ∧ ∀ (v : Nat) H', Same H H' → CP M T h t c v → Q (.int v) H'
theorem ok__law_k05_catch (T : Txt w K mg) : Ok P w K mg base CX0 2 "_law_k05_catch" ["days", "counts", "h", "t", "c"] spLCatch := by
  refine Ok.def0 (f__law_k05_catch T) (fun _ _ _ _ _ _ us hl => match us, hl with | [_, _, _, _, _], _ => rfl) sc__law_k05_catch (fun vs H Q E h => ?_) (fun f cdv A outer s H vs Q E hr h => ?_)
  · obtain ⟨TT, g, M, h, t, c, rfl, _⟩ := h
    rfl
  · obtain ⟨TT, g, M, h, t, c, rfl, hG, hT, htc, hcT, k⟩ := h
    refine ⟨_, (pss_cons (ps_set (i := 5) sc__law_k05_catch.nd rfl (by first | exact Or.inl rfl | exact Or.inr rfl) (pe_ok (ok__law_k05_due T) (hr.mono (by first | decide | omega)) rfl pass0 (pa_cons (pv 0) (pa_cons (pv 1) (pa_cons (pv 2) (pa_cons (pv 3) (pa_cons (pv 4) pa_nil)))))))
      (pss_cons (ps_set (i := 6) sc__law_k05_catch.nd rfl (by first | exact Or.inl rfl | exact Or.inr rfl) (pe_ix (ix_seqK (K := K) rfl) (pe_ix (ix_listK (K := K) rfl) (pv 1) (pv 3) (fun _ _ => rfl)) (pv 4) (fun _ _ => rfl)))
      (pss_cons (ps_for PassesOwn.never rfl (pi_range2 rfl (n_range T) (pa_cons (pv 4) (pa_cons (pe_op op_add (pv 0) pe_int) pa_nil))) (pg_name (i := 7) sc__law_k05_catch.nd rfl (by first | exact Or.inl rfl | exact Or.inr rfl))
        (pss_cons (ps_if (pt_cmpR op_notN (pv 2) pe_non (nomark _)) (pss_one (ps_set (i := 6) sc__law_k05_catch.nd rfl (by first | exact Or.inl rfl | exact Or.inr rfl) (pe_callB (call_max2 rfl) rfl (n_max T) (by decide +kernel) (pa_cons (pv 6) (pa_cons (pe_op op_sub (pe_ix (ix_seqK (K := K) rfl) (pe_ix (ix_listK (K := K) rfl) (pv 1) (pv 3) (fun _ _ => rfl)) (pv 7) (fun _ _ => rfl)) (pe_op op_mul (pv 2) (pe_op op_sub (pv 7) (pv 4)))) pa_nil))))) pss_nil)
      (pss_one (ps_if (pt_cmpR op_ge (pv 6) (pv 5) (nomark _)) (pss_one (ps_ret (pv 7))) pss_nil))))
      (pss_one (ps_ret (pv 0)))))), ?_⟩
    refine ⟨_, rfl, _, rfl, _, rfl, _, rfl, _, rfl, TT, g, M, h, t, c, rfl, hG, hT, htc, hcT, fun H1 s1 => ?_⟩
    have hG1 := hG.same s1
    obtain ⟨rs, r, q1, q2, q3, q4⟩ := hG1.get (a := t) (b := c) (by omega) (by omega)
    refine ⟨_, rfl, _, rfl, g, _, _, _, rfl, rfl, SqL.of q1, at_of rfl q2, _, rfl, .inl ⟨r, _, _, _, rfl, rfl, SqL.of q3, at_of rfl q4, ?_⟩⟩
    cases h with
    | none =>
      refine ⟨_, rfl, _, rfl, _, _, rfl, rfl, _, _, rfl, by omega, for_upto (lo := (c : Int)) (L := TT + 1 - c) (by omega) (fun i σ H' => i = 0 ∧ ∃ v7, σ = [some (.int TT), some (.ref g), some .non, some (.int t), some (.int c), some (.int (M t c)), some (.int (M t c)), v7] ∧ H' = H1) ⟨rfl, _, rfl, rfl⟩ ?_ ?_⟩
      · rintro i σ H' hi ⟨rfl, v7, rfl, rfl⟩
        refine gnE ?_
        refine ⟨_, rfl, rfl, _, rfl, ?_⟩
        have e : (!decide (V.non = V.non)) = false := by simp
        rw [e]
        refine iteF ⟨_, rfl, _, rfl, _, _, rfl, rfl, _, rfl, ?_⟩
        rw [decide_eq_true (Int.le_refl _)]
        refine iteT ⟨_, rfl, ?_⟩
        have z : (c : Int) + ((0 : Nat) : Int) = (c : Nat) := by omega
        rw [z]
        exact k c _ s1 rfl
      · rintro σ H' ⟨h0, _⟩
        omega
    | some h =>
      refine ⟨_, rfl, _, rfl, _, _, rfl, rfl, _, _, rfl, by omega, for_upto (lo := (c : Int)) (L := TT + 1 - c) (by omega) (fun i σ H' => ∃ v7 b, σ = [some (.int TT), some (.ref g), some (.int h), some (.int t), some (.int c), some (.int (dueP M TT (some h) t c)), some (.int b), v7] ∧ H' = H1 ∧ (i = 0 → b = M t c) ∧ (0 < i → b < dueP M TT (some h) t c) ∧ ∀ d, c ≤ d → d < c + i → ¬ En (M t) h (dueP M TT (some h) t c) c d) ⟨_, _, rfl, rfl, fun _ => rfl, fun z => by omega, fun d h1 h2 => by omega⟩ ?_ ?_⟩
      · rintro i σ H' hi ⟨v7, b, rfl, rfl, hb0, hb1, hno⟩
        obtain ⟨rs', r', p1, p2, p3, p4⟩ := hG1.get (a := t) (b := c + i) (by omega) (by omega)
        have z2 : (c : Int) + (i : Int) = ((c + i : Nat) : Int) := by omega
        have e : (!decide (V.int h = V.non)) = true := by simp
        refine gnE ?_
        refine ⟨_, rfl, rfl, _, rfl, ?_⟩
        rw [e]
        refine iteT ⟨_, rfl, _, rfl, _, rfl, g, _, _, _, rfl, rfl, SqL.of p1, at_of rfl p2, _, rfl, .inl ⟨r', _, _, _, rfl, rfl, SqL.of p3, at_of z2 p4, ?_⟩⟩
        refine ⟨_, rfl, _, rfl, _, rfl, _, _, rfl, rfl, _, _, rfl, rfl, .inr (by constructor <;> omega), _, _, rfl, rfl, _, _, rfl, ?_⟩
        rw [max2]
        refine ⟨_, rfl, _, rfl, _, _, rfl, rfl, _, rfl, ?_⟩
        have cell : M t (c + i) - h * ((c : Int) + (i : Int) - (c : Int)) = M t (c + i) - h * (((c + i : Nat) : Int) - (c : Int)) := by rw [z2]
        refine ite2 (fun c1 => ?_) (fun c1 => ?_)
        · refine ⟨_, rfl, ?_⟩
          rw [z2]
          refine k (c + i) _ s1 ⟨by omega, by omega, fun _ => ?_, hno⟩
          have c2 := of_decide_eq_true c1
          rw [cell] at c2
          show _ ≥ _
          rcases Nat.eq_zero_or_pos i with q | q
          · subst q
            rw [hb0 rfl] at c2
            have e0 : M t (c + 0) - h * (((c + 0 : Nat) : Int) - (c : Int)) = M t c := by
              rw [Nat.add_zero, Int.sub_self, Int.mul_zero, Int.sub_zero]
            rw [e0] at c2 ⊢
            omega
          · have := hb1 q
            omega
        · have c2 : ¬ (max b (M t (c + i) - h * ((c : Int) + (i : Int) - (c : Int))) ≥ dueP M TT (some h) t c) := fun z => c1 (decide_eq_true z)
          rw [cell] at c2 ⊢
          refine ⟨_, _, rfl, rfl, fun z => by omega, fun _ => by omega, fun d h1 h2 => ?_⟩
          by_cases q : d = c + i
          · subst q
            unfold En
            omega
          · exact hno d h1 (by omega)
      · rintro σ H' ⟨v7, b, rfl, rfl, hb0, hb1, hno⟩
        exact ⟨_, rfl, k TT _ s1 ⟨hcT, Nat.le_refl _, fun z => by omega, fun d h1 h2 => hno d h1 (by omega)⟩⟩
end
end K05
end
section
set_option maxRecDepth 100000
set_option maxHeartbeats 4000000
namespace L2
open PySem PySem.Spec PyProof.Rows
/-! ### sorted(xs), xs a list of any number of tuples of d ints in [0, B) -/
section
variable {prog : Program} {w : World} {A : Around} {s : Shared}
theorem swoR (r : Value → Int) : SrtO.Swo fun v u => decide (r v < r u) :=
  ⟨fun x y h => decide_eq_false (by have := of_decide_eq_true h; omega), fun x y z h1 h2 => decide_eq_false (by
    have a := of_decide_eq_false h1
    have b := of_decide_eq_false h2
    omega)⟩
/-- two tuples compare as their codes do -/
theorem cmpU {d : Nat} {B : Int} {vs : List Value} (hx : TS.TupsOk s.heap d B vs) (r : Value → Int) (hr : ∀ v ∈ vs, ∀ ns, TS.TupInts s.heap v ns → r v = TS.code B ns) :
    SrtO.Cmp prog w A s (tuples' true) (fun p => p.1 ∈ vs) (SrtO.lt2 fun v u => decide (r v < r u)) := by
  intro p q hp hq
  obtain ⟨ns, T1, n1, b1⟩ := hx _ hp
  obtain ⟨ms, T2, n2, b2⟩ := hx _ hq
  have e : (decide (TS.code B ns < TS.code B ms)) = SrtO.lt2 (fun v u => decide (r v < r u)) p q := by
    show _ = decide (r p.1 < r q.1)
    rw [hr _ hp _ T1, hr _ hq _ T2]
  obtain ⟨a1, l1, e1, ⟨o1, g1, c1, k1, h1⟩, i1⟩ := T1
  obtain ⟨a2, l2, e2, ⟨o2, g2, c2, k2, h2⟩, i2⟩ := T2
  have z1 := i1.length
  have z2 := i2.length
  rw [Array.length_toList] at z1 z2
  rw [e1, e2]
  refine PySem.W.kat_lt g1 h1 g2 h2 ?_
  have z : decide (l1.size < l2.size) = false := decide_eq_false (by omega)
  rw [z]
  exact TS.lex_ints 0 i1 i2 (n1.trans n2.symm) b1 b2 ⟨rfl, e⟩
theorem sortableU {d : Nat} {B : Int} {a : Addr} {vs : List Value} (hd : 1 ≤ d) (h0 : 0 < vs.length) (hx : TS.TupsOk s.heap d B vs) (ha : ∀ o, s.heap.get? a = some o → o.cls ≠ .type "tuple")
    (r : Value → Int) (hr : ∀ v ∈ vs, ∀ ns, TS.TupInts s.heap v ns → r v = TS.code B ns) : SrtO.SortableO prog w A s a vs fun v u => decide (r v < r u) := by
  intro h' keep
  have kp : ∀ b o, s.heap.get? b = some o → o.cls = .type "tuple" → h'.get? b = some o := fun b o g c => keep b o (fun z => ha o (z ▸ g) c) g
  have hx' := hx.keeps kp
  refine ⟨tuples' true, fun Q E hq => ?_, cmpU (s := { s with heap := h' }) hx' r fun v hv ns T => ?_⟩
  · obtain ⟨fs, k, hl, hi⟩ := TS.firsts_of hd vs hx'
    refine PySem.W.kat_kind (T := Value.type "int") k (by omega) (fun f hf => ?_) rfl hq
    obtain ⟨n, t, rfl⟩ := hi f hf
    exact PySem.W.Looks.of_pure rfl
  · obtain ⟨ms, T2, _⟩ := hx v hv
    rw [T.ints.symm.trans (T2.keeps kp).ints]
    exact hr v hv ms T2
end
section
variable {X : Cx} {pins : List (Addr × Obj)} {σ : St} {H : Hp} {s : Shared}
def rSortV (K : PySem.W.Frag) (d : Nat) (B : Int) : List V → Hp → VK → Prop := fun vs H Q => ∃ (a : Addr) (xs : List V), vs = [V.ref a] ∧ SqL K H a xs ∧ (∀ x ∈ xs, ∃ ns, TupI K H x ns ∧ ns.length = d ∧ TS.Bd B ns) ∧
  ∀ (ys : List V) (p : Addr), ys.Perm xs → ys.Pairwise (fun x y => ∀ n m, TupI K H x n → TupI K H y m → TS.code B n ≤ TS.code B m) → H p = none → Q (.ref p) (upd H p (.lst ys))
theorem cr_sortV {d : Nat} {B : Int} (hd : 1 ≤ d) : CallR X (.builtin "sorted") (rSortV X.K d B) := by
  intro pins s σ H vs us Q I r h
  obtain ⟨a, xs, rfl, hs, hx, q⟩ := h
  obtain ⟨its, rv, hl, hz⟩ := I.list hs
  rw [Vals.ref1 r]
  have hlz : its.length ≤ sizeLine := by rw [← rv.length]; exact hz
  obtain ⟨e1, e2⟩ := bkV_refs rv fun x m => by
    obtain ⟨ns, ⟨t, e, _⟩, _⟩ := hx x m
    exact ⟨t, e⟩
  have ok : TS.TupsOk s.heap d B its := fun v hv => by
    obtain ⟨t, rfl⟩ := e2 v hv
    obtain ⟨ns, ⟨t', e, ht⟩, hn, hb⟩ := hx (.ref t) (by rw [e1]; exact List.mem_map.mpr ⟨_, hv, rfl⟩)
    cases e
    exact ⟨ns, tupI_raw I ht, hn, hb⟩
  refine SrtO.sorted_ord (swoR fun v => TS.code B (TS.intsOf s.heap v)) hl.isList hlz (fun h2 h₁ b hb kk => ?_) fun out h1 h2 => ?_
  · refine sortableU (s := { s with heap := h₁ }) hd (by omega) (ok.keeps fun b o g _ => (kk b o g).2) (fun o g => ?_) _ fun v hv ns T => ?_
    · have z : some o = some (seqObj "list" its.toArray 0) := g.symm.trans hb
      cases z
      intro c
      exact absurd (Value.type.inj c) (by decide)
    · obtain ⟨ms, T2, _⟩ := ok v hv
      have z : ns = ms := T.ints.symm.trans (T2.keeps fun b o g _ => (kk b o g).2).ints
      rw [z]
      show TS.code B (TS.intsOf s.heap v) = _
      rw [T2.ints]
  · obtain ⟨ep, he⟩ := PyProof.Rows.sortedAll_at s.heap its out.toArray
    have pm := h2.perm
    have rf : ∀ u ∈ out, ∃ a, u = Value.ref a := fun u hu => e2 u (pm.mem_iff.mp hu)
    have hp : (out.map bkV).Perm xs := by
      rw [e1]
      exact pm.map bkV
    refine ⟨.ref _, upd H (s.heap.objs.size + 1) (.lst (out.map bkV)), I.laid (t' := s.toks) (fun _ _ => PyProof.Rows.sortedAll_old) (Nat.le_succ _) ⟨by rw [hp.length_eq]; exact hz, out, ep, bkV_vals rf, by simpa using he⟩, rfl, q _ _ hp ?_ (I.hok.fresh (Nat.le_succ _))⟩
    rw [List.pairwise_map]
    refine List.Pairwise.imp (fun {u v} huv n m hn hm => ?_) h1
    have z := of_decide_eq_false huv
    obtain ⟨t, et, ht⟩ := hn
    obtain ⟨t', et', ht'⟩ := hm
    have i1 : TS.intsOf s.heap u = n := by
      rw [bkV_ref et]
      exact (tupI_raw I ht).ints
    have i2 : TS.intsOf s.heap v = m := by
      rw [bkV_ref et']
      exact (tupI_raw I ht').ints
    rw [← i1, ← i2]
    omega
end
end L2
namespace L2
open PySem PySem.Spec PyProof.Rows
theorem sortedIK {X : Cx} {K : PySem.W.Frag} (h : X.K = K) : CallR X (.builtin "sorted") (rSortedI K) := h ▸ cr_sortedI
theorem sorted3K {X : Cx} {K : PySem.W.Frag} (h : X.K = K) : CallR X (.builtin "sorted") (rSortV K 3 2000) := h ▸ cr_sortV (by decide)
end L2
namespace L2
theorem du {n m : Nat} (h : n + 64 < m) : n + 1 < m := by omega
end L2
end
section
set_option maxRecDepth 100000
set_option maxHeartbeats 4000000
namespace K05
open PySem PySem.Spec PyProof.Rows L2
theorem pget2 {α β : Type} {F : α → β → Prop} : ∀ {l₁ : List α} {l₂ : List β} {j : Nat} {y : β}, Paired F l₁ l₂ → l₂[j]? = some y → ∃ x, l₁[j]? = some x ∧ F x y
  | _, _, _, _, .nil, h => by cases h
  | _, _, 0, _, .cons a _, h => by cases h; exact ⟨_, rfl, a⟩
  | _, _, j + 1, _, .cons _ r, h => pget2 (j := j) r h
section
variable {P : Program} {w : World} {K : PySem.W.Frag} {mg : Str → Option Value} {base : Heap}
theorem k_db : PySem.W.kitOne K (.type "dict") (.type "bool") = some false := kit_ty (by decide +kernel)
theorem k_di : PySem.W.kitOne K (.type "dict") (.type "int") = some false := kit_ty (by decide +kernel)
theorem k_ds : PySem.W.kitOne K (.type "dict") (.type "str") = some false := kit_ty (by decide +kernel)
theorem k_dd : PySem.W.kitOne K (.type "dict") (.type "dict") = some true := kit_ty (by decide +kernel)
/-- two dicts with the same int keys and int values -/
def spMtT : Sp := fun vs H Q _ => ∃ a b ks, vs = [.ref a, .ref b] ∧ H a = some (.dT ks) ∧ H b = some (.dT ks) ∧ ks.length ≤ 1000 ∧ (∀ kv ∈ ks, ∃ n, valV ks kv.1 = some (V.int n)) ∧ ∀ H', Same H H' → Q (.bl true) H'
theorem ok_mtT (T : Txt w K mg) : Ok P w K mg base CX0 4 "_law_matches" ["answer", "due"] spMtT := by
  refine Ok.def0 (f__law_matches T) (fun _ _ _ _ _ _ us hl => match us, hl with | [_, _], _ => rfl) sc__law_matches (fun vs H Q E h => ?_) (fun f cdv A outer s H vs Q E hr h => ?_)
  · obtain ⟨a, b, ks, rfl, _⟩ := h
    rfl
  · obtain ⟨a, b, ks, rfl, ha, hb, hl, hv, q⟩ := h
    have tx_dk : ∀ {H : Hp} {a : Addr} {ks : List (List Key × V)}, H a = some (.dT ks) → TyX K H (.ref a) (.type "dict") := fun h => .base (.dT h)
    have ok__law_matches := fun (T : Txt w K mg) => ok_mt2 (P := P) (base := base) T
    refine ⟨_, (pss_cons (ps_if (PW.pt (pw_or (pt_cmpR op_isN (pv 1) pe_non (nomark _)) (pw_or1 (pt_cmpR op_isN (pv 0) pe_non (nomark _))))) (pss_one (ps_ret (pe_and (pe_cmpR op_isN (pv 1) pe_non (nomark _)) (pe_one (pe_cmpR op_isN (pv 0) pe_non (nomark _)))))) pss_nil)
      (pss_cons (ps_if (PW.pt (pw_or (pt_val (pe_callB (isiK (K := K) rfl) rfl (n_isinstance T) (by decide +kernel) (pa_cons (pv 1) (pa_cons (pe_bltn (v := .ty "bool") (u := .type "bool") rfl (n_bool T) (by decide +kernel) rfl) pa_nil)))) (pw_or1 (pt_val (pe_callB (isiK (K := K) rfl) rfl (n_isinstance T) (by decide +kernel) (pa_cons (pv 0) (pa_cons (pe_bltn (v := .ty "bool") (u := .type "bool") rfl (n_bool T) (by decide +kernel) rfl) pa_nil))))))) (pss_one (ps_ret (pe_and (pe_callB (isiK (K := K) rfl) rfl (n_isinstance T) (by decide +kernel) (pa_cons (pv 1) (pa_cons (pe_bltn (v := .ty "bool") (u := .type "bool") rfl (n_bool T) (by decide +kernel) rfl) pa_nil))) (pe_and (pe_callB (isiK (K := K) rfl) rfl (n_isinstance T) (by decide +kernel) (pa_cons (pv 0) (pa_cons (pe_bltn (v := .ty "bool") (u := .type "bool") rfl (n_bool T) (by decide +kernel) rfl) pa_nil))) (pe_one (pe_cmpR op_eq (pv 0) (pv 1) (nomark _))))))) pss_nil)
      (pss_cons (ps_if (pt_val (pe_callB (isiK (K := K) rfl) rfl (n_isinstance T) (by decide +kernel) (pa_cons (pv 1) (pa_cons (pe_bltn (v := .ty "int") (u := .type "int") rfl (n_int T) (by decide +kernel) rfl) pa_nil)))) (pss_one (ps_ret (pe_and (pe_callB (isiK (K := K) rfl) rfl (n_isinstance T) (by decide +kernel) (pa_cons (pv 0) (pa_cons (pe_bltn (v := .ty "int") (u := .type "int") rfl (n_int T) (by decide +kernel) rfl) pa_nil))) (pe_one (pe_cmpR op_eq (pv 0) (pv 1) (nomark _)))))) pss_nil)
      (pss_cons (ps_if (pt_val (pe_callB (isiK (K := K) rfl) rfl (n_isinstance T) (by decide +kernel) (pa_cons (pv 1) (pa_cons (pe_bltn (v := .ty "str") (u := .type "str") rfl (n_str T) (by decide +kernel) rfl) pa_nil)))) (pss_one (ps_ret (pe_and (pe_callB (isiK (K := K) rfl) rfl (n_isinstance T) (by decide +kernel) (pa_cons (pv 0) (pa_cons (pe_bltn (v := .ty "str") (u := .type "str") rfl (n_str T) (by decide +kernel) rfl) pa_nil))) (pe_one (pe_cmpR op_eq (pv 0) (pv 1) (nomark _)))))) pss_nil)
      (pss_cons (ps_if (pt_val (pe_callB (isiK (K := K) rfl) rfl (n_isinstance T) (by decide +kernel) (pa_cons (pv 1) (pa_cons (pe_bltn (v := .ty "dict") (u := .type "dict") rfl (n_dict T) (by decide +kernel) rfl) pa_nil)))) (pss_cons (ps_if (PW.pt (pw_or (pt_not (pt_val (pe_callB (isiK (K := K) rfl) rfl (n_isinstance T) (by decide +kernel) (pa_cons (pv 0) (pa_cons (pe_bltn (v := .ty "dict") (u := .type "dict") rfl (n_dict T) (by decide +kernel) rfl) pa_nil))))) (pw_or1 (pt_cmpR op_ne (pe_callB call_len_dT rfl (n_len T) (by decide +kernel) (pa_cons (pv 0) pa_nil)) (pe_callB call_len_dT rfl (n_len T) (by decide +kernel) (pa_cons (pv 1) pa_nil)) (nomark _))))) (pss_one (ps_ret pe_bl)) pss_nil)
      (pss_cons (ps_for PassesOwn.never rfl (pi_listK (K := K) rfl (pe_callTy (call_list_dT rfl) rfl (n_list T) (by decide +kernel) (pa_cons (pv 1) pa_nil))) (pg_name (i := 2) sc__law_matches.nd rfl (by first | exact Or.inl rfl | exact Or.inr rfl))
        (pss_one (ps_if (PW.pt (pw_or (pt_cmp (pc_dnotin (du hr.units) (pv 2) (pv 0))) (pw_or1 (pt_not (pt_val (pe_ok (ok_mt2 T) (hr.mono (by first | decide | omega)) rfl pass0 (pa_cons (pe_dget (du hr.units) (pv 0) (pv 2) (fun _ _ => rfl)) (pa_cons (pe_dget (du hr.units) (pv 1) (pv 2) (fun _ _ => rfl)) pa_nil)))))))) (pss_one (ps_ret pe_bl)) pss_nil)))
      (pss_one (ps_ret pe_bl)))) pss_nil)
      (pss_cons (ps_if (PW.pt (pw_and (pt_val (pe_callB (isiK (K := K) rfl) rfl (n_isinstance T) (by decide +kernel) (pa_cons (pv 1) (pa_cons (pe_bltn (v := .ty "tuple") (u := .type "tuple") rfl (n_tuple T) (by decide +kernel) rfl) pa_nil)))) (pw_and1 (pt_not (pt_val (pe_callB (isiK (K := K) rfl) rfl (n_isinstance T) (by decide +kernel) (pa_cons (pv 0) (pa_cons (pe_bltn (v := .ty "tuple") (u := .type "tuple") rfl (n_tuple T) (by decide +kernel) rfl) pa_nil)))))))) (pss_one (ps_ret pe_bl)) pss_nil)
      (pss_cons (ps_if (PW.pt (pw_and (pt_val (pe_callB (isiK (K := K) rfl) rfl (n_isinstance T) (by decide +kernel) (pa_cons (pv 1) (pa_cons (pe_bltn (v := .ty "list") (u := .type "list") rfl (n_list T) (by decide +kernel) rfl) pa_nil)))) (pw_and1 (pt_not (pt_val (pe_callB (isiK (K := K) rfl) rfl (n_isinstance T) (by decide +kernel) (pa_cons (pv 0) (pa_cons (pe_bltn (v := .ty "list") (u := .type "list") rfl (n_list T) (by decide +kernel) rfl) pa_nil)))))))) (pss_one (ps_ret pe_bl)) pss_nil)
      (pss_cons (ps_if (pt_cmpR op_ne (pe_callB call_len_dT rfl (n_len T) (by decide +kernel) (pa_cons (pv 0) pa_nil)) (pe_callB call_len_dT rfl (n_len T) (by decide +kernel) (pa_cons (pv 1) pa_nil)) (nomark _)) (pss_one (ps_ret pe_bl)) pss_nil)
      (pss_cons (ps_for PassesOwn.never rfl (pi_range1 rfl (n_range T) (pa_cons (pe_callB call_len_dT rfl (n_len T) (by decide +kernel) (pa_cons (pv 1) pa_nil)) pa_nil)) (pg_name (i := 3) sc__law_matches.nd rfl (by first | exact Or.inl rfl | exact Or.inr rfl))
        (pss_one (ps_if (pt_not (pt_val (pe_ok (ok__law_matches T) (hr.mono (by first | decide | omega)) rfl pass0 (pa_cons (pe_dget (du hr.units) (pv 0) (pv 3) (fun _ _ => rfl)) (pa_cons (pe_dget (du hr.units) (pv 1) (pv 3) (fun _ _ => rfl)) pa_nil))))) (pss_one (ps_ret pe_bl)) pss_nil)))
      (pss_one (ps_ret pe_bl))))))))))), ?_⟩
    refine ⟨_, rfl, rfl, _, rfl, iteF ⟨_, rfl, rfl, _, rfl, iteF ?_⟩⟩
    refine ⟨_, rfl, ⟨_, _, _, _, _, rfl, .ty _, tx_dk hb, k_db, _, rfl, iteF ⟨_, rfl, ⟨_, _, _, _, _, rfl, .ty _, tx_dk ha, k_db, _, rfl, iteF ?_⟩⟩⟩⟩
    refine ⟨_, rfl, ⟨_, _, _, _, _, rfl, .ty _, tx_dk hb, k_di, _, rfl, iteF ?_⟩⟩
    refine ⟨_, rfl, ⟨_, _, _, _, _, rfl, .ty _, tx_dk hb, k_ds, _, rfl, iteF ?_⟩⟩
    refine ⟨_, rfl, ⟨_, _, _, _, _, rfl, .ty _, tx_dk hb, k_dd, _, rfl, iteT ?_⟩⟩
    refine ⟨_, rfl, ⟨_, _, _, _, _, rfl, .ty _, tx_dk ha, k_dd, _, rfl, iteF ?_⟩⟩
    refine ⟨_, rfl, _, _, rfl, ha, _, rfl, _, _, rfl, hb, rfl, _, rfl, ?_⟩
    rw [decide_eq_true rfl]
    refine iteF ⟨_, rfl, b, ks, rfl, .inl hb, fun l bs hl0 hk => ?_⟩
    obtain ⟨s1, g1⟩ := new2 (.lst (bs.map V.ref)) hl0
    refine ⟨l, rfl, ⟨_, SqL.of g1⟩, for_list (K := K) (a := l) (xs := bs.map V.ref) (fun i σ H' => ∃ v2, σ = [some (.ref a), some (.ref b), v2, none] ∧ Same H H' ∧ H' l = some (.lst (bs.map V.ref))) ⟨none, rfl, s1, g1⟩ (fun i σ H' _ ⟨_, _, _, z⟩ => SqL.of z) ?_ ?_⟩
    · rintro i x σ H' hx ⟨v2, rfl, e, hL⟩
      rw [List.getElem?_map] at hx
      obtain ⟨bb, hbb, rfl⟩ := Option.map_eq_some_iff.mp hx
      obtain ⟨kv, hkv, hbt⟩ := pget2 hk hbb
      obtain ⟨n, hn⟩ := hv kv (List.mem_of_getElem? hkv)
      have ga := DGet.t (k := kv.1) (e _ _ ha) (e _ _ hbt)
      have gb := DGet.t (k := kv.1) (e _ _ hb) (e _ _ hbt)
      rw [hn] at ga gb
      refine ⟨_, rfl, _, rfl, a, _, rfl, ga, _, rfl, iteF ?_⟩
      refine ⟨_, rfl, _, rfl, a, _, rfl, ga, _, rfl, _, rfl, b, _, rfl, gb, ?_⟩
      exact ⟨_, _, rfl, .inl (.inl ⟨n, rfl, rfl⟩), fun H2 s2 => ⟨_, rfl, _, rfl, e.trans s2, s2 _ _ hL⟩⟩
    · rintro σ H' ⟨v2, rfl, e, hL⟩
      exact q _ e
end
end K05
end
section
set_option maxRecDepth 100000
set_option maxHeartbeats 4000000
namespace K05
open PySem PySem.Spec PyProof.Rows L2
def spMtN : Sp := fun vs H Q _ => vs = [.non, .non] ∧ Q (.bl true) H
section
variable {P : Program} {w : World} {K : PySem.W.Frag} {mg : Str → Option Value} {base : Heap}
def spLUnfit : Sp := fun vs H Q _ => ∃ (T : Nat) (g : Addr) (M : Nat → Nat → Int) (h : Option Int), vs = [.int T, .ref g, hV h] ∧ RowsAt H g M (T + 1) ∧ T ≤ 24 ∧ ∀ v r H', Same H H' → UV H' v r → FB M T h r → Q v H'
theorem ok__law_k05_unfit (T : Txt w K mg) : Ok P w K mg base CX0 1 "_law_k05_unfit" ["days", "counts", "h"] spLUnfit := by
  refine Ok.def0 (f__law_k05_unfit T) (fun _ _ _ _ _ _ us hl => match us, hl with | [_, _, _], _ => rfl) sc__law_k05_unfit (fun vs H Q E h => ?_) (fun f cdv A outer s H vs Q E hr h => ?_)
  · obtain ⟨TT, g, M, h, rfl, _⟩ := h
    rfl
  · obtain ⟨TT, g, M, h, rfl, hG, hT, k⟩ := h
    refine ⟨_, (pss_cons (ps_for PassesOwn.never rfl (pi_range2 rfl (n_range T) (pa_cons pe_int (pa_cons (pe_op op_add (pv 0) pe_int) pa_nil))) (pg_name (i := 3) sc__law_k05_unfit.nd rfl (by first | exact Or.inl rfl | exact Or.inr rfl))
        (pss_one (ps_for PassesOwn.never rfl (pi_range1 rfl (n_range T) (pa_cons (pv 3) pa_nil)) (pg_name (i := 4) sc__law_k05_unfit.nd rfl (by first | exact Or.inl rfl | exact Or.inr rfl))
        (pss_one (ps_if (PW.pt (pw_and (pt_cmpR op_notN (pv 2) pe_non (nomark _)) (pw_and1 (pt_cmpR op_gt (pe_ix (ix_seqK (K := K) rfl) (pe_ix (ix_listK (K := K) rfl) (pv 1) (pv 4) (fun _ _ => rfl)) (pv 3) (fun _ _ => rfl)) (pe_op op_mul (pv 2) (pe_op op_sub (pv 3) (pv 4))) (nomark _))))) (pss_one (ps_ret (pe_tup (pa_cons (pv 4) (pa_cons (pv 3) pa_nil))))) pss_nil)))))
      (pss_one (ps_ret pe_non))), ?_⟩
    cases h with
    | none =>
      refine ⟨_, rfl, _, _, rfl, rfl, 1, TT + 1, rfl, by omega, for_upto (lo := 1) (L := TT) (by omega) (fun b σ H' => ∃ v3 v4, σ = [some (.int TT), some (.ref g), some .non, v3, v4] ∧ H' = H) ⟨_, _, rfl, rfl⟩ ?_ ?_⟩
      · rintro b σ H' hb ⟨v3, v4, rfl, rfl⟩
        refine ⟨_, rfl, _, rfl, by omega, by omega, for_upto (lo := 0) (L := b + 1) (by omega) (fun a σ H0 => ∃ v4, σ = [some (.int TT), some (.ref g), some .non, some (.int (1 + (b : Int))), v4] ∧ H0 = H') ⟨_, rfl, rfl⟩ ?_ ?_⟩
        · rintro a σ H0 ha ⟨v4, rfl, rfl⟩
          refine ⟨_, rfl, rfl, _, rfl, ?_⟩
          have e : (!decide (V.non = V.non)) = false := by simp
          rw [e]
          exact iteF ⟨_, rfl, rfl⟩
        · rintro σ H0 ⟨v4, rfl, rfl⟩
          exact ⟨_, _, rfl, rfl⟩
      · rintro σ H' ⟨v3, v4, rfl, rfl⟩
        exact k .non none _ (Same.refl _) rfl rfl
    | some h =>
      refine ⟨_, rfl, _, _, rfl, rfl, 1, TT + 1, rfl, by omega, for_upto (lo := 1) (L := TT) (by omega) (fun b σ H' => ∃ v3 v4, σ = [some (.int TT), some (.ref g), some (.int h), v3, v4] ∧ H' = H ∧ ∀ a' b', a' < b' → b' < b + 1 → ¬ Bad M h a' b') ⟨_, _, rfl, rfl, fun a' b' h1 h2 => by omega⟩ ?_ ?_⟩
      · rintro b σ H' hb ⟨v3, v4, rfl, rfl, hgood⟩
        refine ⟨_, rfl, _, rfl, by omega, by omega, for_upto (lo := 0) (L := b + 1) (by omega) (fun a σ H0 => ∃ v4, σ = [some (.int TT), some (.ref g), some (.int h), some (.int (1 + (b : Int))), v4] ∧ H0 = H' ∧ ∀ a', a' < a → ¬ Bad M h a' (b + 1)) ⟨_, rfl, rfl, fun a' h1 => by omega⟩ ?_ ?_⟩
        · rintro a σ H0 ha ⟨v4, rfl, rfl, hg2⟩
          obtain ⟨rs, r, q1, q2, q3, q4⟩ := hG.get (a := a) (b := b + 1) (by omega) (by omega)
          have z1 : (0 : Int) + (a : Int) = (a : Nat) := by omega
          have z2 : (1 : Int) + (b : Int) = ((b + 1 : Nat) : Int) := by omega
          have en : (!decide (V.int h = V.non)) = true := by simp
          refine ⟨_, rfl, rfl, _, rfl, ?_⟩
          rw [en]
          refine iteT ?_
          refine ⟨_, rfl, _, rfl, g, _, _, _, rfl, rfl, SqL.of q1, at_of z1 q2, _, rfl, .inl ⟨r, _, _, _, rfl, rfl, SqL.of q3, at_of z2 q4, ?_⟩⟩
          refine ⟨_, rfl, _, rfl, _, rfl, _, _, rfl, rfl, _, _, rfl, rfl, .inr (by constructor <;> omega), _, _, rfl, rfl, _, rfl, ?_⟩
          refine ite2 (fun c => ?_) (fun c => ?_)
          · refine ⟨_, rfl, _, rfl, (by show 2 ≤ sizeLine; decide), fun t ht => ?_⟩
            obtain ⟨s1, g1⟩ := new2 (.tup [.int (0 + (a : Int)), .int (1 + (b : Int))]) ht
            refine k _ (some (a, b + 1)) _ s1 ⟨t, rfl, ?_⟩ ?_
            · rw [g1, z1, z2]
            · have hc : Bad M h a (b + 1) := by
                have := of_decide_eq_true c
                rw [z1, z2] at this
                exact this
              refine ⟨by omega, by omega, hc, fun a' b' h1 h2 => ?_⟩
              rcases h2 with h2 | ⟨rfl, h2⟩
              · exact hgood a' b' h1 h2
              · exact hg2 a' h2
          · refine ⟨_, rfl, rfl, fun a' h1 => ?_⟩
            by_cases e : a' = a
            · subst e
              intro hb'
              refine c (decide_eq_true ?_)
              rw [z1, z2]
              exact hb'
            · exact hg2 a' (by omega)
        · rintro σ H0 ⟨v4, rfl, rfl, hg2⟩
          refine ⟨_, _, rfl, rfl, fun a' b' h1 h2 => ?_⟩
          by_cases e : b' = b + 1
          · subst e
            exact hg2 a' h1
          · exact hgood a' b' h1 (by omega)
      · rintro σ H' ⟨v3, v4, rfl, rfl, hgood⟩
        exact k .non none _ (Same.refl _) rfl fun a b h1 h2 => hgood a b h1 (by omega)
theorem ok_mtN (T : Txt w K mg) : Ok P w K mg base CX0 2 "_law_matches" ["answer", "due"] spMtN := by
  refine Ok.def0 (f__law_matches T) (fun _ _ _ _ _ _ us hl => match us, hl with | [_, _], _ => rfl) sc__law_matches (fun vs H Q E h => ?_) (fun f cdv A outer s H vs Q E hr h => ?_)
  · obtain ⟨rfl, _⟩ := h
    rfl
  · obtain ⟨rfl, q⟩ := h
    have ok__law_matches := fun (T : Txt w K mg) => ok_mt0 (P := P) (base := base) T
    refine ⟨_, (pss_cons (ps_if (PW.pt (pw_or (pt_cmpR op_isN (pv 1) pe_non (nomark _)) (pw_or1 (pt_cmpR op_isN (pv 0) pe_non (nomark _))))) (pss_one (ps_ret (pe_and (pe_cmpR op_isN (pv 1) pe_non (nomark _)) (pe_one (pe_cmpR op_isN (pv 0) pe_non (nomark _)))))) pss_nil)
      (pss_cons (ps_if (PW.pt (pw_or (pt_val (pe_callB (isiK (K := K) rfl) rfl (n_isinstance T) (by decide +kernel) (pa_cons (pv 1) (pa_cons (pe_bltn (v := .ty "bool") (u := .type "bool") rfl (n_bool T) (by decide +kernel) rfl) pa_nil)))) (pw_or1 (pt_val (pe_callB (isiK (K := K) rfl) rfl (n_isinstance T) (by decide +kernel) (pa_cons (pv 0) (pa_cons (pe_bltn (v := .ty "bool") (u := .type "bool") rfl (n_bool T) (by decide +kernel) rfl) pa_nil))))))) (pss_one (ps_ret (pe_and (pe_callB (isiK (K := K) rfl) rfl (n_isinstance T) (by decide +kernel) (pa_cons (pv 1) (pa_cons (pe_bltn (v := .ty "bool") (u := .type "bool") rfl (n_bool T) (by decide +kernel) rfl) pa_nil))) (pe_and (pe_callB (isiK (K := K) rfl) rfl (n_isinstance T) (by decide +kernel) (pa_cons (pv 0) (pa_cons (pe_bltn (v := .ty "bool") (u := .type "bool") rfl (n_bool T) (by decide +kernel) rfl) pa_nil))) (pe_one (pe_cmpR op_eq (pv 0) (pv 1) (nomark _))))))) pss_nil)
      (pss_cons (ps_if (pt_val (pe_callB (isiK (K := K) rfl) rfl (n_isinstance T) (by decide +kernel) (pa_cons (pv 1) (pa_cons (pe_bltn (v := .ty "int") (u := .type "int") rfl (n_int T) (by decide +kernel) rfl) pa_nil)))) (pss_one (ps_ret (pe_and (pe_callB (isiK (K := K) rfl) rfl (n_isinstance T) (by decide +kernel) (pa_cons (pv 0) (pa_cons (pe_bltn (v := .ty "int") (u := .type "int") rfl (n_int T) (by decide +kernel) rfl) pa_nil))) (pe_one (pe_cmpR op_eq (pv 0) (pv 1) (nomark _)))))) pss_nil)
      (pss_cons (ps_if (pt_val (pe_callB (isiK (K := K) rfl) rfl (n_isinstance T) (by decide +kernel) (pa_cons (pv 1) (pa_cons (pe_bltn (v := .ty "str") (u := .type "str") rfl (n_str T) (by decide +kernel) rfl) pa_nil)))) (pss_one (ps_ret (pe_and (pe_callB (isiK (K := K) rfl) rfl (n_isinstance T) (by decide +kernel) (pa_cons (pv 0) (pa_cons (pe_bltn (v := .ty "str") (u := .type "str") rfl (n_str T) (by decide +kernel) rfl) pa_nil))) (pe_one (pe_cmpR op_eq (pv 0) (pv 1) (nomark _)))))) pss_nil)
      (pss_cons (ps_if (pt_val (pe_callB (isiK (K := K) rfl) rfl (n_isinstance T) (by decide +kernel) (pa_cons (pv 1) (pa_cons (pe_bltn (v := .ty "dict") (u := .type "dict") rfl (n_dict T) (by decide +kernel) rfl) pa_nil)))) (pss_cons (ps_if (PW.pt (pw_or (pt_not (pt_val (pe_callB (isiK (K := K) rfl) rfl (n_isinstance T) (by decide +kernel) (pa_cons (pv 0) (pa_cons (pe_bltn (v := .ty "dict") (u := .type "dict") rfl (n_dict T) (by decide +kernel) rfl) pa_nil))))) (pw_or1 (pt_cmpR op_ne (pe_callB (len_seqK (K := K) rfl) rfl (n_len T) (by decide +kernel) (pa_cons (pv 0) pa_nil)) (pe_callB (len_seqK (K := K) rfl) rfl (n_len T) (by decide +kernel) (pa_cons (pv 1) pa_nil)) (nomark _))))) (pss_one (ps_ret pe_bl)) pss_nil)
      (pss_cons (ps_for PassesOwn.never rfl (pi_listK (K := K) rfl (pe_callTy (list_ofK (K := K) rfl) rfl (n_list T) (by decide +kernel) (pa_cons (pv 1) pa_nil))) (pg_name (i := 2) sc__law_matches.nd rfl (by first | exact Or.inl rfl | exact Or.inr rfl))
        (pss_one (ps_if (PW.pt (pw_or (pt_cmpR op_notIn_seq (pv 2) (pv 0) (by with_unfolding_all rfl)) (pw_or1 (pt_not (pt_val (pe_ok (ok__law_matches T) (hr.mono (by first | decide | omega)) rfl pass0 (pa_cons (pe_ix (ix_seqK (K := K) rfl) (pv 0) (pv 2) (fun _ _ => rfl)) (pa_cons (pe_ix (ix_seqK (K := K) rfl) (pv 1) (pv 2) (fun _ _ => rfl)) pa_nil)))))))) (pss_one (ps_ret pe_bl)) pss_nil)))
      (pss_one (ps_ret pe_bl)))) pss_nil)
      (pss_cons (ps_if (PW.pt (pw_and (pt_val (pe_callB (isiK (K := K) rfl) rfl (n_isinstance T) (by decide +kernel) (pa_cons (pv 1) (pa_cons (pe_bltn (v := .ty "tuple") (u := .type "tuple") rfl (n_tuple T) (by decide +kernel) rfl) pa_nil)))) (pw_and1 (pt_not (pt_val (pe_callB (isiK (K := K) rfl) rfl (n_isinstance T) (by decide +kernel) (pa_cons (pv 0) (pa_cons (pe_bltn (v := .ty "tuple") (u := .type "tuple") rfl (n_tuple T) (by decide +kernel) rfl) pa_nil)))))))) (pss_one (ps_ret pe_bl)) pss_nil)
      (pss_cons (ps_if (PW.pt (pw_and (pt_val (pe_callB (isiK (K := K) rfl) rfl (n_isinstance T) (by decide +kernel) (pa_cons (pv 1) (pa_cons (pe_bltn (v := .ty "list") (u := .type "list") rfl (n_list T) (by decide +kernel) rfl) pa_nil)))) (pw_and1 (pt_not (pt_val (pe_callB (isiK (K := K) rfl) rfl (n_isinstance T) (by decide +kernel) (pa_cons (pv 0) (pa_cons (pe_bltn (v := .ty "list") (u := .type "list") rfl (n_list T) (by decide +kernel) rfl) pa_nil)))))))) (pss_one (ps_ret pe_bl)) pss_nil)
      (pss_cons (ps_if (pt_cmpR op_ne (pe_callB (len_seqK (K := K) rfl) rfl (n_len T) (by decide +kernel) (pa_cons (pv 0) pa_nil)) (pe_callB (len_seqK (K := K) rfl) rfl (n_len T) (by decide +kernel) (pa_cons (pv 1) pa_nil)) (nomark _)) (pss_one (ps_ret pe_bl)) pss_nil)
      (pss_cons (ps_for PassesOwn.never rfl (pi_range1 rfl (n_range T) (pa_cons (pe_callB (len_seqK (K := K) rfl) rfl (n_len T) (by decide +kernel) (pa_cons (pv 1) pa_nil)) pa_nil)) (pg_name (i := 3) sc__law_matches.nd rfl (by first | exact Or.inl rfl | exact Or.inr rfl))
        (pss_one (ps_if (pt_not (pt_val (pe_ok (ok__law_matches T) (hr.mono (by first | decide | omega)) rfl pass0 (pa_cons (pe_ix (ix_seqK (K := K) rfl) (pv 0) (pv 3) (fun _ _ => rfl)) (pa_cons (pe_ix (ix_seqK (K := K) rfl) (pv 1) (pv 3) (fun _ _ => rfl)) pa_nil))))) (pss_one (ps_ret pe_bl)) pss_nil)))
      (pss_one (ps_ret pe_bl))))))))))), ?_⟩
    have e : decide (V.non = V.non) = true := by simp
    refine ⟨_, rfl, rfl, _, rfl, ?_⟩
    rw [e]
    refine iteT ⟨_, rfl, rfl, ?_⟩
    rw [e]
    refine ⟨_, rfl, iteT ⟨_, rfl, rfl, ?_⟩⟩
    rw [e]
    exact q
/-- None or a couple, alike -/
theorem mt_UV {H : Hp} {v u : V} : ∀ {r : Option (Nat × Nat)}, r ≠ none → UV H v r → UV H u r → Mt 1 H v u
  | none, h, _, _ => absurd rfl h
  | some (a, b), _, ⟨t, e1, h1⟩, ⟨t', e2, h2⟩ => by
    subst e1 e2
    refine .inr ⟨t, t', _, _, rfl, rfl, .inr ⟨h1, h2⟩, rfl, (by show 2 ≤ 1000; decide), fun i x y hx hy => ?_⟩
    rw [hx] at hy
    cases hy
    rcases i with _ | _ | i
    · cases hx; exact .inl ⟨_, rfl, rfl⟩
    · cases hx; exact .inl ⟨_, rfl, rfl⟩
    · cases hx
end
end K05
end
section
set_option maxRecDepth 100000
set_option maxHeartbeats 4000000
namespace K05
open PySem PySem.Spec PyProof.Rows L2
theorem DOk.err {K : PySem.W.Frag} {E : XK} {H : Hp} {M : Nat → Nat → Int} {T : Nat} {h : Option Int} (g : DOk M T h) : DErr K E H M T h :=
  ⟨fun n a b => by have := (g n a).2.1; omega, fun n a b => by have := (g n a).1; omega, fun n a _ _ ⟨x, y, h1, h2, h3⟩ => absurd h3 ((g n a).2.2 x y h1 h2)⟩
theorem GardenAt.bx {K : PySem.W.Frag} {H H' : Hp} {sa p : Addr} {d : Int} {ws : List (Int × Int)} (hst : Stk H sa) (b : Bx sa H H') (h : GardenAt K H p d ws) : GardenAt K H' p d ws := by
  obtain ⟨dx, l, xs, h1, h2, h3⟩ := h
  have n1 : p ≠ sa := fun z => by
    obtain ⟨x, y, t, e⟩ := hst
    rw [← z, h1] at e
    cases e
  have n2 : l ≠ sa := fun z => by
    obtain ⟨x, y, t, e⟩ := hst
    rw [← z, h2] at e
    cases e
    cases h3 with
    | cons r _ =>
      obtain ⟨q, e, _⟩ := r
      cases e
  exact ⟨dx, l, xs, b _ _ h1 (fun _ z => by cases z) n1, b.lst n2 h2, Paired.mapP h3 fun _ _ z => z.bx hst b⟩
theorem GOk.bx {K : PySem.W.Frag} {H H' : Hp} {sa p : Addr} {T : Nat} {ws : List (Int × Int)} (hst : Stk H sa) (b : Bx sa H H') (h : GOk K H p T ws) : GOk K H' p T ws := ⟨GardenAt.bx hst b h.1, h.2⟩
theorem RowsAt.bx {H H' : Hp} {sa g : Addr} {M : Nat → Nat → Int} {n : Nat} (hn : 4 ≤ n) (hst : Stk H sa) (b : Bx sa H H') (h : RowsAt H g M n) : RowsAt H' g M n := by
  obtain ⟨rs, h1, h2, h3⟩ := h
  obtain ⟨x, y, t, e⟩ := hst
  have n1 : g ≠ sa := fun z => by
    rw [← z, h1] at e
    have := congrArg List.length (HO.lst.inj (Option.some.inj e))
    rw [List.length_map] at this
    simp at this
    omega
  refine ⟨rs, b.lst n1 h1, h2, fun a r ha => b.lst (fun z => ?_) (h3 a r ha)⟩
  have := h3 a r ha
  rw [z, e] at this
  have := congrArg List.length (HO.lst.inj (Option.some.inj this))
  rw [rowV_len] at this
  simp at this
  omega
theorem mt_int2 {H : Hp} (n : Int) : Mt 2 H (.int n) (.int n) := .inl (.inl ⟨n, rfl, rfl⟩)
/-- a couple of days within T -/
def CoupleAt (T : Nat) (H : Hp) (x : V) : Prop := ∃ (b : Addr) (t c : Nat), x = .ref b ∧ H b = some (.tup [.int (t : Int), .int (c : Int)]) ∧ t ≤ c ∧ c ≤ T
theorem CoupleAt.bx {T : Nat} {H H' : Hp} {sa : Addr} {x : V} (hst : Stk H sa) (e : Bx sa H H') (h : CoupleAt T H x) : CoupleAt T H' x := by
  obtain ⟨b, t, c, rfl, h1, h2⟩ := h
  exact ⟨b, t, c, rfl, e.tup (ne_stk hst h1 fun _ z => by cases z) h1, h2⟩
section
variable {P : Program} {w : World} {K : PySem.W.Frag} {mg : Str → Option Value} {base : Heap}
def spFit (K : PySem.W.Frag) : Sp := fun vs H Q _ => ∃ (sa : Addr) (T : Nat) (g : Addr) (ws : List (Int × Int)) (h : Option Int) (p : Addr), vs = [.ref sa, .int T, .ref g, hV h, .ref p] ∧ RowsAt H g (gM ws) (T + 1) ∧ GOk K H p T ws ∧ DOk (gM ws) T h ∧ 3 ≤ T ∧ Stk H sa ∧ ∀ H', But sa H H' → Stk H' sa → Q (.bl true) H'
theorem ok__law_k05_fit (T : Txt w K mg) : Ok P w K mg base CX0 9 "_law_k05_fit" ["stock", "days", "counts", "h", "garden"] (spFit K) := by
  refine Ok.def0 (f__law_k05_fit T) (fun _ _ _ _ _ _ us hl => match us, hl with | [_, _, _, _, _], _ => rfl) sc__law_k05_fit (fun vs H Q E h => ?_) (fun f cdv A outer s H vs Q E hr h => ?_)
  · obtain ⟨sa, TT, g, ws, h, p, rfl, _⟩ := h
    rfl
  · obtain ⟨sa, TT, g, ws, h, p, rfl, hR, hG, ok, h3, hst, k⟩ := h
    have ok__law_matches := fun (T : Txt w K mg) => ok_mt2 (P := P) (base := base) T
    refine ⟨_, (pss_cons (ps_set (i := 5) sc__law_k05_fit.nd rfl (by first | exact Or.inl rfl | exact Or.inr rfl) pe_dnewT)
      (pss_cons (ps_for PassesOwn.never rfl (pi_range1 rfl (n_range T) (pa_cons (pe_op op_add (pv 1) pe_int) pa_nil)) (pg_name (i := 6) sc__law_k05_fit.nd rfl (by first | exact Or.inl rfl | exact Or.inr rfl))
        (pss_one (ps_for PassesOwn.never rfl (pi_range2 rfl (n_range T) (pa_cons (pv 6) (pa_cons (pe_op op_add (pv 1) pe_int) pa_nil))) (pg_name (i := 7) sc__law_k05_fit.nd rfl (by first | exact Or.inl rfl | exact Or.inr rfl))
        (pss_one (ps_asg (pe_ok (ok__law_k05_due T) (hr.mono (by first | decide | omega)) rfl pass0 (pa_cons (pv 1) (pa_cons (pv 2) (pa_cons (pv 3) (pa_cons (pv 6) (pa_cons (pv 7) pa_nil)))))) (pg_sub (pv 5) (pe_tup (pa_cons (pv 6) (pa_cons (pv 7) pa_nil))) (set_dict (du hr.units))))))))
      (pss_cons (ps_set (i := 8) sc__law_k05_fit.nd rfl (by first | exact Or.inl rfl | exact Or.inr rfl) (pe_okM (okm_Garden_dues T) (cl_Garden T) (pv 4) (hr.mono (by first | decide | omega)) passL (pa_cons (pv 3) pa_nil)))
      (pss_cons (ps_if (PW.pt (pw_or (pt_not (pt_val (pe_ok (ok_mtN T) (hr.mono (by first | decide | omega)) rfl pass0 (pa_cons (pe_okM (okm_Garden_unfit T) (cl_Garden T) (pv 4) (hr.mono (by first | decide | omega)) passL (pa_cons (pv 3) pa_nil)) (pa_cons pe_non pa_nil))))) (pw_or1 (pt_not (pt_val (pe_ok (ok_mtT T) (hr.mono (by first | decide | omega)) rfl pass0 (pa_cons (pv 8) (pa_cons (pv 5) pa_nil)))))))) (pss_one (ps_ret pe_bl)) pss_nil)
      (pss_cons (ps_asg pe_int (pg_sub (pv 8) (pe_tup (pa_cons pe_int (pa_cons pe_int pa_nil))) (set_dict (du hr.units))))
      (pss_cons (ps_asg pe_int (pg_sub (pv 8) (pe_tup (pa_cons (pe_op op_add (pv 1) pe_int) (pa_cons pe_int pa_nil))) (set_dict (du hr.units))))
      (pss_cons (ps_set (i := 9) sc__law_k05_fit.nd rfl (by first | exact Or.inl rfl | exact Or.inr rfl) (pe_callTy (call_list_dT rfl) rfl (n_list T) (by decide +kernel) (pa_cons (pv 5) pa_nil)))
      (pss_cons (ps_if (pt_cmpR op_gt (pv 1) pe_int (nomark _)) (pss_one (ps_set (i := 9) sc__law_k05_fit.nd rfl (by first | exact Or.inl rfl | exact Or.inr rfl) (pe_lc (own := [("turn", 10)]) rfl sc__law_k05_fit.nd (pi_range1 rfl (n_range T) (pa_cons pe_int pa_nil)) (blkOk_by (N := ["stock", "days", "counts", "h", "garden", "due", "t", "c", "told", "couples", "turn", "couple"]) (sc := defScope s__law_k05_fit) (by decide +kernel)) (fun _ _ _ _ _ => (pg_name (i := 10) sc__law_k05_fit.nd rfl (by first | exact Or.inl rfl | exact Or.inr rfl))) (fun _ _ _ _ _ => pts_nil) (fun _ _ _ _ _ => (pe_ix (ix_listK (K := K) rfl) (pv 9) (pe_ok (ok__law_draw T) (hr.mono (by first | decide | omega)) rfl pass0 (pa_cons (pv 0) (pa_cons (pe_callB (len_seqK (K := K) rfl) rfl (n_len T) (by decide +kernel) (pa_cons (pv 9) pa_nil)) pa_nil))) (fun _ _ => rfl)))))) pss_nil)
      (pss_cons (ps_for PassesOwn.never rfl (pi_listK (K := K) rfl (pv 9)) (pg_name (i := 11) sc__law_k05_fit.nd rfl (by first | exact Or.inl rfl | exact Or.inr rfl))
        (pss_one (ps_if (pt_not (pt_val (pe_ok (ok__law_matches T) (hr.mono (by first | decide | omega)) rfl pass0 (pa_cons (pe_okM (okm_Garden_catch T) (cl_Garden T) (pv 4) (hr.mono (by first | decide | omega)) passL (pa_cons (pv 3) (pa_cons (pe_ix (ix_tupK (K := K) rfl) (pv 11) pe_int (fun _ _ => rfl)) (pa_cons (pe_ix (ix_tupK (K := K) rfl) (pv 11) pe_int (fun _ _ => rfl)) pa_nil)))) (pa_cons (pe_ok (ok__law_k05_catch T) (hr.mono (by first | decide | omega)) rfl pass0 (pa_cons (pv 1) (pa_cons (pv 2) (pa_cons (pv 3) (pa_cons (pe_ix (ix_tupK (K := K) rfl) (pv 11) pe_int (fun _ _ => rfl)) (pa_cons (pe_ix (ix_tupK (K := K) rfl) (pv 11) pe_int (fun _ _ => rfl)) pa_nil)))))) pa_nil))))) (pss_one (ps_ret pe_bl)) pss_nil)))
      (pss_one (ps_ret (pe_ok (ok_mtT T) (hr.mono (by first | decide | omega)) rfl pass0 (pa_cons (pe_okM (okm_Garden_dues T) (cl_Garden T) (pv 4) (hr.mono (by first | decide | omega)) passL (pa_cons (pv 3) pa_nil)) (pa_cons (pv 5) pa_nil)))))))))))))), ?_⟩
    refine fun due hdue => ?_
    obtain ⟨s1, g1⟩ := new2 (.dT []) hdue
    have hT := hG.2.1
    refine ⟨_, rfl, _, _, rfl, rfl, _, rfl, by omega, by omega, for_upto (lo := 0) (L := TT + 1) (by omega) (fun t σ H' => ∃ v6 v7 v8 v9 v10 v11, σ = [some (.ref sa), some (.int TT), some (.ref g), some (hV h), some (.ref p), some (.ref due), v6, v7, v8, v9, v10, v11] ∧ Same H H' ∧ H' due = some (.dT (tabL (dueP (gM ws) TT h) TT t))) ⟨_, _, _, _, _, _, rfl, s1, g1⟩ ?_ ?_⟩
    · rintro i σ H1 hi ⟨v6, v7, v8, v9, v10, v11, rfl, e1, d1⟩
      have z1 : (0 : Int) + (i : Int) = (i : Nat) := by omega
      refine ⟨_, rfl, _, rfl, _, _, rfl, rfl, _, _, rfl, by omega, for_upto (lo := 0 + (i : Int)) (L := TT + 1 - i) (by omega) (fun j σ H' => ∃ v7 v8 v9 v10 v11, σ = [some (.ref sa), some (.int TT), some (.ref g), some (hV h), some (.ref p), some (.ref due), some (.int (0 + (i : Int))), v7, v8, v9, v10, v11] ∧ Same H H' ∧ H' due = some (.dT (tabL (dueP (gM ws) TT h) TT i ++ rowT (dueP (gM ws) TT h) i j))) ⟨_, _, _, _, _, rfl, e1, by rw [d1]; unfold rowT; simp⟩ ?_ ?_⟩
      · rintro j σ H2 hj ⟨v7, v8, v9, v10, v11, rfl, e2, d2⟩
        have z2 : (0 : Int) + (i : Int) + (j : Int) = ((i + j : Nat) : Int) := by omega
        refine gnE ?_
        refine ⟨_, rfl, _, rfl, _, rfl, _, rfl, _, rfl, TT, g, gM ws, h, i, i + j, (by rw [z1, ← z2, z1]; rfl), hR.same e2, hT, by omega, by omega, fun H3 s3 => ?_⟩
        have e3 := e2.trans s3
        refine ⟨_, rfl, _, rfl, _, rfl, (by show 2 ≤ sizeLine; decide), fun t ht => ?_⟩
        obtain ⟨s4, g4⟩ := new2 (.tup [.int (0 + (i : Int)), .int (0 + (i : Int) + (j : Int))]) ht
        have g4' : upd H3 t (.tup [.int (0 + (i : Int)), .int (0 + (i : Int) + (j : Int))]) t = some (.tup ((key2 i (i + j)).map kV)) := by
          rw [g4, z2, z1]
          rfl
        refine ⟨due, _, rfl, DPut.t (s4 _ _ (s3 _ _ d2)) g4' (line_lt ?_), ?_⟩
        · have := tabL_len (M := dueP (gM ws) TT h) hT i
          rw [List.length_append, rowT_len]
          omega
        · refine ⟨_, _, _, _, _, rfl, same_mut (e3.trans s4) hdue, ?_⟩
          rw [upd_same, tabL_put, rowT_succ, List.append_assoc]
      · rintro σ H2 ⟨v7, v8, v9, v10, v11, rfl, e2, d2⟩
        exact ⟨_, _, _, _, _, _, rfl, e2, by rw [tabL_succ]; exact d2⟩
    · rintro σ H2 ⟨v6, v7, v8, v9, v10, v11, rfl, e2, d2⟩
      have hd2 : H2 due = some (.dT (tabM (dueP (gM ws) TT h) TT)) := d2
      have hG2 := hG.same e2
      obtain ⟨dx, l, xs, i1, i2, i3⟩ := id hG2.1
      refine ⟨_, rfl, p, dx, _, rfl, i1, gf_no (by decide +kernel) (by decide +kernel), _, rfl, p, TT, ws, h, rfl, hG2, ok.err, fun _ told H3 htold s3 hto => ?_⟩
      have e3 := e2.trans s3
      have hG3 := hG2.same s3
      refine ⟨_, rfl, p, dx, _, rfl, s3 _ _ i1, gf_no (by decide +kernel) (by decide +kernel), _, rfl, p, TT, ws, h, rfl, hG3, ok.err.cans, ok.err.sign, fun _ v r H4 s4 hv hf => ?_⟩
      obtain rfl : v = .non := by
        cases r with
        | none => exact hv
        | some q =>
          obtain ⟨n, e, a, b, h1, h2, h3'⟩ := hf.some_bad
          exact absurd h3' ((ok n e).2.2 a b h1 h2)
      refine ⟨rfl, _, rfl, ?_⟩
      have s34 := s3.trans s4
      have e4 := e2.trans s34
      refine ⟨_, rfl, _, rfl, told, due, _, rfl, s4 _ _ hto, s34 _ _ hd2, tabM_len hT, (fun kv hkv => ?_), fun H5 s5 => ⟨_, rfl, ?_⟩⟩
      · obtain ⟨t, c, _, _, _, hv⟩ := tabM_ok kv hkv
        exact ⟨_, hv⟩
      have e5 := e4.trans s5
      have ht5 := s5 _ _ (s4 _ _ hto)
      have hd5 := s5 _ _ (s34 _ _ hd2)
      have hne : due ≠ told := fun z => by rw [← z] at htold; rw [hd2] at htold; cases htold
      have hlen := tabM_len (M := dueP (gM ws) TT h) hT
      -- told is spoiled
      refine ⟨_, rfl, (by show 2 ≤ sizeLine; decide), fun t1 ht1 => ?_⟩
      obtain ⟨s6, g6⟩ := new2 (.tup [.int 0, .int 0]) ht1
      refine ⟨told, _, rfl, DPut.t (k := [.inl 0, .inl 0]) (s6 _ _ ht5) g6 (line_lt (by omega)), ?_⟩
      have e7 := same_mut (o := .dT (putK (tabM (dueP (gM ws) TT h) TT) [.inl 0, .inl 0] (.int 5))) (e5.trans s6) (none_of e2 htold)
      have hd7 : upd (upd H5 t1 (.tup [.int 0, .int 0])) told (.dT (putK (tabM (dueP (gM ws) TT h) TT) [.inl 0, .inl 0] (.int 5))) due = some (.dT (tabM (dueP (gM ws) TT h) TT)) := by
        rw [upd_ne hne]
        exact s6 _ _ hd5
      have ht7 : upd (upd H5 t1 (.tup [.int 0, .int 0])) told (.dT (putK (tabM (dueP (gM ws) TT h) TT) [.inl 0, .inl 0] (.int 5))) told = some (.dT (putK (tabM (dueP (gM ws) TT h) TT) [.inl 0, .inl 0] (.int 5))) := upd_same
      generalize upd (upd H5 t1 (.tup [.int 0, .int 0])) told (.dT (putK (tabM (dueP (gM ws) TT h) TT) [.inl 0, .inl 0] (.int 5))) = H7 at e7 hd7 ht7 ⊢
      refine ⟨_, rfl, _, rfl, _, _, rfl, rfl, (by show 2 ≤ sizeLine; decide), fun t2 ht2 => ?_⟩
      obtain ⟨s8, g8⟩ := new2 (.tup [.int ((TT : Int) + 1), .int 0]) ht2
      refine ⟨told, _, rfl, DPut.t (k := [.inl ((TT : Int) + 1), .inl 0]) (s8 _ _ ht7) g8 (line_lt (by have := length_putK (tabM (dueP (gM ws) TT h) TT) [.inl 0, .inl 0] (.int 5); omega)), ?_⟩
      have e9 := same_mut (o := .dT (putK (putK (tabM (dueP (gM ws) TT h) TT) [.inl 0, .inl 0] (.int 5)) [.inl ((TT : Int) + 1), .inl 0] (.int 5))) (e7.trans s8) (none_of e2 htold)
      have hd9 : upd (upd H7 t2 (.tup [.int ((TT : Int) + 1), .int 0])) told (.dT (putK (putK (tabM (dueP (gM ws) TT h) TT) [.inl 0, .inl 0] (.int 5)) [.inl ((TT : Int) + 1), .inl 0] (.int 5))) due = some (.dT (tabM (dueP (gM ws) TT h) TT)) := by
        rw [upd_ne hne]
        exact s8 _ _ hd7
      generalize upd (upd H7 t2 (.tup [.int ((TT : Int) + 1), .int 0])) told (.dT (putK (putK (tabM (dueP (gM ws) TT h) TT) [.inl 0, .inl 0] (.int 5)) [.inl ((TT : Int) + 1), .inl 0] (.int 5))) = H9 at e9 hd9 ⊢
      -- couples
      refine ⟨_, rfl, due, _, rfl, .inl hd9, fun L bs hL hk => ?_⟩
      obtain ⟨s10, g10⟩ := new2 (.lst (bs.map V.ref)) hL
      have hbl : bs.length ≤ 1000 := by rw [← Paired.length hk]; exact hlen
      have hcp : ∀ x ∈ bs.map V.ref, CoupleAt TT (upd H9 L (.lst (bs.map V.ref))) x := fun x hx => by
        obtain ⟨b, hb, rfl⟩ := List.mem_map.mp hx
        obtain ⟨j, hj⟩ := List.getElem?_of_mem hb
        obtain ⟨kv, hkv, ht⟩ := pget2 hk hj
        obtain ⟨t, c, h1, h2, e, _⟩ := tabM_ok kv (List.mem_of_getElem? hkv)
        rw [e] at ht
        exact ⟨b, t, c, rfl, s10 _ _ ht, h1, h2⟩
      have hb0 : 0 < bs.length := by
        rw [← Paired.length hk]
        unfold tabM
        rw [tabL_succ, List.length_append, rowT_len]
        omega
      have hd10 := s10 _ _ hd9
      have e10 := e9.trans s10
      generalize upd H9 L (.lst (bs.map V.ref)) = H10 at s10 g10 hcp hd10 e10 ⊢
      have b10 : But sa H H10 := But.of e10
      have hst10 := hst.same e10
      refine nxE (st_blk (fun σ H' => ∃ v6 v7 v8 v10 v11 L xs, σ = [some (.ref sa), some (.int TT), some (.ref g), some (hV h), some (.ref p), some (.ref due), v6, v7, v8, some (.ref L), v10, v11] ∧ But sa H10 H' ∧ Stk H' sa ∧ H' L = some (.lst xs) ∧ L ≠ sa ∧ xs.length ≤ 1000 ∧ ∀ x ∈ xs, CoupleAt TT H' x) (fun N hN => ?_) ?_)
      · have hLsa : L ≠ sa := fun z => (hst.same e9).ne (by rw [← z]; exact hL)
        refine ⟨_, rfl, _, _, rfl, rfl, _, rfl, ite2 (fun c => ?_) (fun c => hN _ _ ⟨_, _, _, _, _, L, _, rfl, But.refl sa H10, hst10, g10, hLsa, by rw [List.length_map]; exact hbl, hcp⟩)⟩
        refine ⟨_, rfl, by decide, by decide, fun D hD => lc_uptoB (lo := 0) (sa := sa) (L := 12) rfl hD hst10.ne (by omega) (fun j acc H2 => Stk H2 sa ∧ ∀ x ∈ acc, CoupleAt TT H2 x) (fun H' s' => ⟨hst10.same s', fun x hx => by cases hx⟩) ?_ ?_⟩
        · rintro j acc H11 N' N0' hj b11 hacc ⟨hst11, hI⟩ hN' hN0'
          have hDsa : D ≠ sa := fun z => hst10.ne (by rw [← z]; exact hD)
          have hL11 := b11 _ _ g10 hLsa
          refine ⟨rfl, ?_⟩
          refine ⟨_, rfl, _, rfl, _, rfl, _, _, rfl, .inl (SqL.of hL11), sa, _, rfl, (by rw [List.length_map]; omega), (by rw [List.length_map]; omega), hst11, fun r x y z r0 r1 => ?_⟩
          rw [List.length_map] at r1
          obtain ⟨v, hv⟩ : ∃ v, (bs.map V.ref)[r.toNat]? = some v := ⟨(bs.map V.ref)[r.toNat]'(by rw [List.length_map]; omega), List.getElem?_eq_getElem _⟩
          have b12 : But sa H11 (upd H11 sa (stk x y z)) := (But.refl sa H11).upd
          refine ⟨L, _, _, v, rfl, rfl, SqL.of (b12 _ _ hL11 hLsa), at_of (by omega) hv, hN' _ _ b12 fun H12 b13 _ => ⟨?_, fun x' hx' => ?_⟩⟩
          · exact ⟨x, y, z, b13 _ _ upd_same hDsa.symm⟩
          · have hx'' : CoupleAt TT (upd H11 sa (stk x y z)) x' := by
              rcases List.mem_append.mp hx' with q | q
              · exact (hI x' q).bx hst11 (Bx.of_but b12)
              · rw [List.mem_singleton.mp q]
                exact ((hcp v (List.mem_of_getElem? hv)).bx hst10 (Bx.of_but b11)).bx hst11 (Bx.of_but b12)
            obtain ⟨bb, t, c, rfl, q1, q2⟩ := hx''
            exact ⟨bb, t, c, rfl, b13 _ _ q1 (fun w => by rw [w, b12 _ _ hacc hDsa] at q1; cases q1), q2⟩
        · rintro acc H11 b11 hacc hal ⟨hst11, hI⟩
          have hDsa : D ≠ sa := fun z => hst10.ne (by rw [← z]; exact hD)
          exact hN _ _ ⟨_, _, _, _, _, D, acc, rfl, b11, hst11, hacc, hDsa, by omega, hI⟩
      · rintro σ H11 ⟨v6, v7, v8, v10, v11, L2, xs2, rfl, b11, hst11, hL2, hLs, hx2, hcp2⟩
        have bA : But sa H H11 := b10.trans b11
        have hG11 := hG.bx hst (Bx.of_but bA)
        have hR11 := RowsAt.bx (by omega) hst (Bx.of_but bA) hR
        have hdsa : due ≠ sa := fun z => hst.ne (by rw [← z]; exact hdue)
        have hd11 := b11 _ _ hd10 hdsa
        refine ⟨_, rfl, L2, rfl, ⟨_, SqL.of hL2⟩, for_list (K := K) (a := L2) (xs := xs2) (fun i σ H' => ∃ v6 v7 v8 v10 v11, σ = [some (.ref sa), some (.int TT), some (.ref g), some (hV h), some (.ref p), some (.ref due), v6, v7, v8, some (.ref L2), v10, v11] ∧ Same H11 H') ⟨_, _, _, _, _, rfl, Same.refl _⟩ (fun i σ H' _ ⟨_, _, _, _, _, _, z⟩ => SqL.of (z _ _ hL2)) ?_ ?_⟩
        · rintro i x σ H12 hx ⟨v6, v7, v8, v10, v11, rfl, e12⟩
          obtain ⟨b, t, c, rfl, hb, htc, hcT⟩ := hcp2 x (List.mem_of_getElem? hx)
          have hb12 := e12 _ _ hb
          have hG12 := hG11.same e12
          obtain ⟨dx', l', xs', k1, k2, k3⟩ := id hG12.1
          have hbs : badS (TT : Int) (t : Int) (c : Int) = none := by
            unfold badS
            repeat' split
            all_goals first | rfl | omega
          refine ⟨_, rfl, p, dx', _, rfl, k1, gf_no (by decide +kernel) (by decide +kernel), _, rfl, _, rfl, b, _, 0, _, rfl, rfl, SqT.of hb12, rfl, _, rfl, b, _, 1, _, rfl, rfl, SqT.of hb12, rfl, ?_⟩
          refine ⟨p, TT, ws, h, t, c, rfl, hG12, ok.err, (fun _ x hx => by rw [hbs] at hx; cases hx), fun _ t' c' e1 e2 h1 h2 v H13 s13 hv => ?_⟩
          have et : t' = t := by omega
          have ec : c' = c := by omega
          subst et ec
          refine ⟨_, rfl, _, rfl, _, rfl, _, rfl, b, _, 0, _, rfl, rfl, SqT.of (s13 _ _ hb12), rfl, _, rfl, b, _, 1, _, rfl, rfl, SqT.of (s13 _ _ hb12), rfl, ?_⟩
          refine ⟨TT, g, gM ws, h, t', c', rfl, (hR11.same e12).same s13, hT, h1, h2, fun v' H14 s14 hv' => ?_⟩
          rw [hv.uniq hv']
          exact ⟨_, _, rfl, mt_int2 _, fun H15 s15 => ⟨_, rfl, _, _, _, _, _, rfl, ((e12.trans s13).trans s14).trans s15⟩⟩
        · rintro σ H12 ⟨v6, v7, v8, v10, v11, rfl, e12⟩
          have hG12 := hG11.same e12
          obtain ⟨dx', l', xs', k1, k2, k3⟩ := id hG12.1
          refine ⟨_, rfl, p, dx', _, rfl, k1, gf_no (by decide +kernel) (by decide +kernel), _, rfl, p, TT, ws, h, rfl, hG12, ok.err, fun _ told2 H13 htold2 s13 hto2 => ?_⟩
          refine ⟨_, rfl, told2, due, _, rfl, hto2, s13 _ _ (e12 _ _ hd11), hlen, (fun kv hkv => ?_), fun H14 s14 => ?_⟩
          · obtain ⟨t, c, _, _, _, hv⟩ := tabM_ok kv hkv
            exact ⟨_, hv⟩
          · exact k _ (bA.trans (But.of ((e12.trans s13).trans s14))) (hst11.same ((e12.trans s13).trans s14))
end
end K05
end
section
set_option maxRecDepth 100000
set_option maxHeartbeats 4000000
namespace K05
open PySem PySem.Spec PyProof.Rows L2
theorem ext_ins {H H' : Hp} {a C dx : Addr} {fs : List (Str × V)} (e : LamX.ExtN H H') (h : H a = some (.ins C dx fs)) : H' a = some (.ins C dx fs) := e _ _ h fun _ z => by cases z
theorem PairT.ext {H H' : Hp} (e : LamX.ExtN H H') {x : V} {c : Int × Int} (h : PairT H x c) : PairT H' x c := by
  obtain ⟨t, rfl, h⟩ := h
  exact ⟨t, rfl, ext_tup e h⟩
theorem GOk.ext {K : PySem.W.Frag} {H H' : Hp} {p : Addr} {T : Nat} {ws : List (Int × Int)} (e : LamX.ExtN H H') (h : GOk K H p T ws) : GOk K H' p T ws := by
  obtain ⟨⟨dx, l, xs, h1, h2, h3⟩, h4⟩ := h
  exact ⟨⟨dx, l, xs, ext_ins e h1, ext_lst e h2, Paired.mapP h3 fun _ _ z => PairT.ext e z⟩, h4⟩
theorem RowsAt.ext {H H' : Hp} {g : Addr} {M : Nat → Nat → Int} {n : Nat} (e : LamX.ExtN H H') (h : RowsAt H g M n) : RowsAt H' g M n := by
  obtain ⟨rs, h1, h2, h3⟩ := h
  exact ⟨rs, ext_lst e h1, h2, fun a r ha => ext_lst e (h3 a r ha)⟩
theorem mt_UV2 {H : Hp} {v u : V} : ∀ {r : Option (Nat × Nat)}, r ≠ none → UV H v r → UV H u r → Mt 2 H v u
  | none, h, _, _ => absurd rfl h
  | some (a, b), _, ⟨t, e1, h1⟩, ⟨t', e2, h2⟩ => by
    subst e1 e2
    refine .inr ⟨t, t', _, _, rfl, rfl, .inr ⟨h1, h2⟩, rfl, (by show 2 ≤ 1000; decide), fun i x y hx hy => ?_⟩
    rw [hx] at hy
    cases hy
    rcases i with _ | _ | i
    · cases hx; exact .inl (.inl ⟨_, rfl, rfl⟩)
    · cases hx; exact .inl (.inl ⟨_, rfl, rfl⟩)
    · cases hx
section
variable {P : Program} {w : World} {K : PySem.W.Frag} {mg : Str → Option Value} {base : Heap}
def spDays (K : PySem.W.Frag) : Sp := fun vs H Q _ => ∃ (T : Nat) (p : Addr) (h : Option Int) (ws : List (Int × Int)), vs = [.int T, .ref p, hV h] ∧ GOk K H p T ws ∧ DOk (gM ws) T h ∧ 1 ≤ T ∧ LamX.Tabs (Tl K) H ∧ ∀ H', LamX.ExtN H H' → LamX.Tabs (Tl K) H' → Q (.bl true) H'
theorem ok__law_k05_days (T : Txt w K mg) (TB : TabsB K base mg) : Ok P w K mg base CX0 13 "_law_k05_days" ["days", "garden", "h"] (spDays K) := by
  refine Ok.defC (fl__law_k05_days T) (fun _ _ _ _ _ _ us hl => match us, hl with | [_, _, _], _ => rfl) sc__law_k05_days (fun vs H Q E h => ?_) (fun f A outer s H vs Q E hr h => ?_)
  · obtain ⟨TT, p, h, ws, rfl, _⟩ := h
    rfl
  · obtain ⟨TT, p, h, ws, rfl, hG, ok, hT1, hT, k⟩ := h
    have ok__law_matches := fun (T : Txt w K mg) => ok_mt2 (P := P) (base := base) T
    refine ⟨_, (pss_cons (ps_set (i := 3) sc__law_k05_days.nd rfl (by first | exact Or.inl rfl | exact Or.inr rfl) (pe_op op_add (pv 0) pe_int))
      (pss_cons (ps_if (pt_not (pt_val (pe_refused (cc := (He.cT K ("_law_k05_days", none)).1) (P := (He.cT K ("_law_k05_days", none)).2) T (hr.mono (by decide)) rfl (TB _ (List.mem_of_getElem? (i := 0) rfl)) rfl (List.mem_of_getElem? (i := 0) rfl) (LamX.lamS_by (by kernel_rfl)) rfl (fun _ _ _ _ _ => rfl) (fun A outer s H E f c' hr => (pe_okM (okm_Garden_catch T) (cl_Garden T) (pv 1) (hr.mono (by first | decide | omega)) (passes_call (takes_of rfl rfl rfl rfl) (fun _ _ _ _ h => h)) (pa_cons (pv 2) (pa_cons (pe_un un_neg pe_int) (pa_cons (pv 3) pa_nil))))) (pa_cons (pe_tup (pa_cons pe_str (pa_cons (pe_un un_neg pe_int) pa_nil))) pa_nil)))) (pss_one (ps_ret pe_bl)) pss_nil)
      (pss_cons (ps_if (pt_not (pt_val (pe_refused (cc := (He.cT K ("_law_k05_days", none)).1) (P := (He.cT K ("_law_k05_days", none)).2) T (hr.mono (by decide)) rfl (TB _ (List.mem_of_getElem? (i := 0) rfl)) rfl (List.mem_of_getElem? (i := 0) rfl) (LamX.lamS_by (by kernel_rfl)) rfl (fun _ _ _ _ _ => rfl) (fun A outer s H E f c' hr => (pe_okM (okm_Garden_catch T) (cl_Garden T) (pv 1) (hr.mono (by first | decide | omega)) (passes_call (takes_of rfl rfl rfl rfl) (fun _ _ _ _ h => h)) (pa_cons (pv 2) (pa_cons (pv 3) (pa_cons pe_int pa_nil))))) (pa_cons (pe_tup (pa_cons pe_str (pa_cons (pv 3) pa_nil))) pa_nil)))) (pss_one (ps_ret pe_bl)) pss_nil)
      (pss_cons (ps_if (pt_not (pt_val (pe_refused (cc := (He.cT K ("_law_k05_days", none)).1) (P := (He.cT K ("_law_k05_days", none)).2) T (hr.mono (by decide)) rfl (TB _ (List.mem_of_getElem? (i := 0) rfl)) rfl (List.mem_of_getElem? (i := 0) rfl) (LamX.lamS_by (by kernel_rfl)) rfl (fun _ _ _ _ _ => rfl) (fun A outer s H E f c' hr => (pe_okM (okm_Garden_catch T) (cl_Garden T) (pv 1) (hr.mono (by first | decide | omega)) (passes_call (takes_of rfl rfl rfl rfl) (fun _ _ _ _ h => h)) (pa_cons (pv 2) (pa_cons pe_int (pa_cons (pv 3) pa_nil))))) (pa_cons (pe_tup (pa_cons pe_str (pa_cons (pv 3) pa_nil))) pa_nil)))) (pss_one (ps_ret pe_bl)) pss_nil)
      (pss_cons (ps_if (pt_not (pt_val (pe_refused (cc := (He.cT K ("_law_k05_days", none)).1) (P := (He.cT K ("_law_k05_days", none)).2) T (hr.mono (by decide)) rfl (TB _ (List.mem_of_getElem? (i := 0) rfl)) rfl (List.mem_of_getElem? (i := 0) rfl) (LamX.lamS_by (by kernel_rfl)) rfl (fun _ _ _ _ _ => rfl) (fun A outer s H E f c' hr => (pe_okM (okm_Garden_catch T) (cl_Garden T) (pv 1) (hr.mono (by first | decide | omega)) (passes_call (takes_of rfl rfl rfl rfl) (fun _ _ _ _ h => h)) (pa_cons (pv 2) (pa_cons (pv 0) (pa_cons (pe_op op_sub (pv 0) pe_int) pa_nil))))) (pa_cons (pe_tup (pa_cons pe_str (pa_cons (pe_op op_sub (pv 0) pe_int) pa_nil))) pa_nil)))) (pss_one (ps_ret pe_bl)) pss_nil)
      (pss_one (ps_ret (pe_ok (ok__law_matches T) (hr.mono (by first | decide | omega)) rfl pass0 (pa_cons (pe_okM (okm_Garden_catch T) (cl_Garden T) (pv 1) (hr.mono (by first | decide | omega)) passL (pa_cons (pv 2) (pa_cons (pv 0) (pa_cons (pv 0) pa_nil)))) (pa_cons (pv 0) pa_nil)))))))))), ?_⟩
    have eBD : ErrC K (cBD K) "BadDay" "day" := .inr (.inl ⟨rfl, rfl, rfl⟩)
    have step : ∀ {a b x : Int} {H2 H3 : Hp} {E : XK} {Q' : VK} {H0 : Hp}, badS TT a b = some x → Same H2 H3 → GOk K H3 p TT ws → spGCatch K [.ref p, hV h, .int a, .int b] H3 Q' (Er (cBD K) "day" (.int x) H2) := fun {a b x H2 H3 E Q' H0} hb q2 hG3 =>
      ⟨p, TT, ws, h, a, b, rfl, hG3, ok.err, (fun _ y hy => by rw [hb] at hy; cases hy; exact rz_er q2), fun _ t' c' e1 e2 h1 h2 => by
        unfold badS at hb
        rw [if_neg (by omega), if_neg (by omega), if_neg (by omega)] at hb
        cases hb⟩
    have s1 : badS TT (-1) (TT + 1) = some (-1) := by
      unfold badS
      repeat' split
      all_goals first | rfl | omega
    have s2 : badS TT (TT + 1) 0 = some ((TT : Int) + 1) := by
      unfold badS
      repeat' split
      all_goals first | rfl | omega
    have s3 : badS TT 0 (TT + 1) = some ((TT : Int) + 1) := by
      unfold badS
      repeat' split
      all_goals first | rfl | omega
    have s4 : badS TT TT (TT - 1) = some ((TT : Int) - 1) := by
      unfold badS
      repeat' split
      all_goals first | rfl | omega
    have s5 : badS TT TT TT = none := by
      unfold badS
      repeat' split
      all_goals first | rfl | omega
    have ins : ∀ {H'}, LamX.ExtN H H' → ∃ dx fs, H' p = some (.ins (cG K) dx fs) ∧ fs.lookup ("catch" : Str) = none := fun e => (hG.ext e).1.nm (by decide +kernel) (by decide +kernel)
    refine ⟨_, rfl, _, _, rfl, rfl, ?_⟩
    refine ref_step (fl := "day") (.int (-1)) hT eBD (.inl ⟨_, rfl⟩) (fun H1 Q _ q => ⟨_, rfl, q⟩) (fun H2 H3 Q' e2 q2 => ?_) (fun H6 e6 T6 => ⟨_, rfl, iteF ?_⟩)
    · have e3 := e2.trans (ext_of q2)
      obtain ⟨dx, fs, i1, i2⟩ := ins e3
      exact ⟨_, rfl, p, dx, _, rfl, i1, i2, _, rfl, _, rfl, _, rfl, step (E := E) (H0 := H) s1 q2 (hG.ext e3)⟩
    refine ref_step (fl := "day") (.int ((TT : Int) + 1)) T6 eBD (.inl ⟨_, rfl⟩) (fun H1 Q _ q => ⟨_, rfl, q⟩) (fun H2 H3 Q' e2 q2 => ?_) (fun H7 e7 T7 => ⟨_, rfl, iteF ?_⟩)
    · have e3 := e6.trans (e2.trans (ext_of q2))
      obtain ⟨dx, fs, i1, i2⟩ := ins e3
      exact ⟨_, rfl, p, dx, _, rfl, i1, i2, _, rfl, _, rfl, step (E := E) (H0 := H) s2 q2 (hG.ext e3)⟩
    have e7 := e6.trans e7
    refine ref_step (fl := "day") (.int ((TT : Int) + 1)) T7 eBD (.inl ⟨_, rfl⟩) (fun H1 Q _ q => ⟨_, rfl, q⟩) (fun H2 H3 Q' e2 q2 => ?_) (fun H8 e8 T8 => ⟨_, rfl, iteF ?_⟩)
    · have e3 := e7.trans (e2.trans (ext_of q2))
      obtain ⟨dx, fs, i1, i2⟩ := ins e3
      exact ⟨_, rfl, p, dx, _, rfl, i1, i2, _, rfl, _, rfl, step (E := E) (H0 := H) s3 q2 (hG.ext e3)⟩
    have e8 := e7.trans e8
    refine ref_step (fl := "day") (.int ((TT : Int) - 1)) T8 eBD (.inl ⟨_, rfl⟩) (fun H1 Q _ q => ⟨_, rfl, _, _, rfl, rfl, q⟩) (fun H2 H3 Q' e2 q2 => ?_) (fun H9 e9 T9 => ⟨_, rfl, iteF ?_⟩)
    · have e3 := e8.trans (e2.trans (ext_of q2))
      obtain ⟨dx, fs, i1, i2⟩ := ins e3
      exact ⟨_, rfl, p, dx, _, rfl, i1, i2, _, rfl, _, rfl, _, rfl, _, _, rfl, rfl, step (E := E) (H0 := H) s4 q2 (hG.ext e3)⟩
    have e9 := e8.trans e9
    obtain ⟨dx, fs, i1, i2⟩ := ins e9
    refine ⟨_, rfl, p, dx, _, rfl, i1, i2, _, rfl, _, rfl, _, rfl, p, TT, ws, h, TT, TT, rfl, hG.ext e9, ok.err, (fun _ x hx => by rw [s5] at hx; cases hx), fun _ t' c' e1 e2 h1 h2 v H10 s10 hv => ?_⟩
    have ev : v = TT := by
      have q1 : t' = TT := by omega
      have q2 : c' = TT := by omega
      subst q1
      rw [q2] at hv
      cases h with
      | none => exact hv
      | some n =>
        have := hv.1
        have := hv.2.1
        omega
    rw [ev]
    exact ⟨_, rfl, _, _, rfl, mt_int2 _, fun H11 s11 => k _ (e9.trans (ext_of (s10.trans s11))) (T9.ext (s10.trans s11))⟩
def spAsked (K : PySem.W.Frag) : Sp := fun vs H Q _ => ∃ (T : Nat) (g : Addr) (n : Int) (p : Addr) (ws : List (Int × Int)), vs = [.int T, .ref g, .int n, .ref p] ∧ RowsAt H g (gM ws) (T + 1) ∧ GOk K H p T ws ∧ 0 ≤ n ∧ n ≤ 10 ^ 12 ∧ (∃ a b, a < b ∧ b ≤ T ∧ Bad (gM ws) n a b) ∧ LamX.Tabs (Tl K) H ∧ ∀ H', LamX.ExtN H H' → LamX.Tabs (Tl K) H' → Q (.bl true) H'
theorem ok__law_k05_unfit_asked (T : Txt w K mg) (TB : TabsB K base mg) : Ok P w K mg base CX0 13 "_law_k05_unfit_asked" ["days", "counts", "h", "garden"] (spAsked K) := by
  refine Ok.defC (fl__law_k05_unfit_asked T) (fun _ _ _ _ _ _ us hl => match us, hl with | [_, _, _, _], _ => rfl) sc__law_k05_unfit_asked (fun vs H Q E h => ?_) (fun f A outer s H vs Q E hr h => ?_)
  · obtain ⟨TT, g, n, p, ws, rfl, _⟩ := h
    rfl
  · obtain ⟨TT, g, n, p, ws, rfl, hR, hG, n0, n1, hbad, hT, k⟩ := h
    have ok__law_matches := fun (T : Txt w K mg) => ok_mt2 (P := P) (base := base) T
    refine ⟨_, (pss_cons (ps_if (pt_not (pt_val (pe_ok (ok__law_matches T) (hr.mono (by first | decide | omega)) rfl pass0 (pa_cons (pe_okM (okm_Garden_unfit T) (cl_Garden T) (pv 3) (hr.mono (by first | decide | omega)) passL (pa_cons (pv 2) pa_nil)) (pa_cons (pe_ok (ok__law_k05_unfit T) (hr.mono (by first | decide | omega)) rfl pass0 (pa_cons (pv 0) (pa_cons (pv 1) (pa_cons (pv 2) pa_nil)))) pa_nil))))) (pss_one (ps_ret pe_bl)) pss_nil)
      (pss_cons (ps_if (pt_not (pt_val (pe_refused (cc := (He.cT K ("_law_k05_unfit_asked", none)).1) (P := (He.cT K ("_law_k05_unfit_asked", none)).2) T (hr.mono (by decide)) rfl (TB _ (List.mem_of_getElem? (i := 1) rfl)) rfl (List.mem_of_getElem? (i := 1) rfl) (LamX.lamS_by (by kernel_rfl)) rfl (fun _ _ _ _ _ => rfl) (fun A outer s H E f c' hr => (pe_okM (okm_Garden_dues T) (cl_Garden T) (pv 3) (hr.mono (by first | decide | omega)) (passes_call (takes_of rfl rfl rfl rfl) (fun _ _ _ _ h => h)) (pa_cons (pv 2) pa_nil))) (pa_cons (pe_tup (pa_cons pe_str (pa_cons pe_str pa_nil))) pa_nil)))) (pss_one (ps_ret pe_bl)) pss_nil)
      (pss_cons (ps_if (pt_not (pt_val (pe_refused (cc := (He.cT K ("_law_k05_unfit_asked", none)).1) (P := (He.cT K ("_law_k05_unfit_asked", none)).2) T (hr.mono (by decide)) rfl (TB _ (List.mem_of_getElem? (i := 1) rfl)) rfl (List.mem_of_getElem? (i := 1) rfl) (LamX.lamS_by (by kernel_rfl)) rfl (fun _ _ _ _ _ => rfl) (fun A outer s H E f c' hr => (pe_okM (okm_Garden_catch T) (cl_Garden T) (pv 3) (hr.mono (by first | decide | omega)) (passes_call (takes_of rfl rfl rfl rfl) (fun _ _ _ _ h => h)) (pa_cons (pv 2) (pa_cons pe_int (pa_cons (pv 0) pa_nil))))) (pa_cons (pe_tup (pa_cons pe_str (pa_cons pe_str pa_nil))) pa_nil)))) (pss_one (ps_ret pe_bl)) pss_nil)
      (pss_one (ps_ret (pe_refused (cc := (He.cT K ("_law_k05_unfit_asked", none)).1) (P := (He.cT K ("_law_k05_unfit_asked", none)).2) T (hr.mono (by decide)) rfl (TB _ (List.mem_of_getElem? (i := 1) rfl)) rfl (List.mem_of_getElem? (i := 1) rfl) (LamX.lamS_by (by kernel_rfl)) rfl (fun _ _ _ _ _ => rfl) (fun A outer s H E f c' hr => (pe_okM (okm_Garden_catch T) (cl_Garden T) (pv 3) (hr.mono (by first | decide | omega)) (passes_call (takes_of rfl rfl rfl rfl) (fun _ _ _ _ h => h)) (pa_cons (pv 2) (pa_cons pe_int (pa_cons (pe_op op_add (pv 0) pe_int) pa_nil))))) (pa_cons (pe_tup (pa_cons pe_str (pa_cons pe_str pa_nil))) pa_nil))))))), ?_⟩
    have eBS : ErrC K (cBS K) "BadSetting" "what" := .inr (.inr ⟨rfl, rfl, rfl⟩)
    have nok : ¬ DOk (gM ws) TT (some n) := fun ok => by
      obtain ⟨a, b, h1, h2, h3⟩ := hbad
      exact (ok n rfl).2.2 a b h1 h2 h3
    have err : ∀ {H2 H3 : Hp}, Same H2 H3 → DErr K (Er (cBS K) "what" (.str "ditch") H2) H3 (gM ws) TT (some n) := fun q => ⟨fun m e z => by cases e; omega, fun m e z => by cases e; omega, fun m e _ _ _ => rz_er q⟩
    obtain ⟨dx, l, xs, i1, i2, i3⟩ := id hG.1
    have ins : ∀ {H'} {m : Str}, LamX.ExtN H H' → (m == ("days_number" : Str)) = false → (m == ("seed_list" : Str)) = false → ∃ dx fs, H' p = some (.ins (cG K) dx fs) ∧ fs.lookup m = none := fun e a b => (hG.ext e).1.nm a b
    refine ⟨_, rfl, p, dx, _, rfl, i1, gf_no (by decide +kernel) (by decide +kernel), _, rfl, p, TT, ws, some n, rfl, hG, (fun m e z => by cases e; omega), (fun m e z => by cases e; omega), fun _ v r H1 s1 hv hf => ?_⟩
    refine ⟨_, rfl, _, rfl, _, rfl, TT, g, gM ws, some n, rfl, hR.same s1, hG.2.1, fun u r' H2 s2 hu hf' => ?_⟩
    have er := hf.uniq hf'
    subst er
    have rn : r ≠ none := fun z => by
      subst z
      obtain ⟨a, b, h1, h2, h3⟩ := hbad
      exact hf.none_ok n rfl a b h1 h2 h3
    have hv2 : UV H2 v r := by
      cases r with
      | none => exact absurd rfl rn
      | some q =>
        obtain ⟨t, e, ht⟩ := hv
        exact ⟨t, e, s2 _ _ ht⟩
    refine ⟨_, _, rfl, mt_UV2 rn hv2 hu, fun H3 s3 => ⟨_, rfl, iteF ?_⟩⟩
    have e3 : LamX.ExtN H H3 := ext_of ((s1.trans s2).trans s3)
    have T3 := hT.ext ((s1.trans s2).trans s3)
    refine ref_step (fl := "what") (.str "ditch") T3 eBS (.inr ⟨_, rfl⟩) (fun H1 Q _ q => q) (fun H5 H6 Q' e2 q2 => ?_) (fun H7 e7 T7 => ⟨_, rfl, iteF ?_⟩)
    · have e := e3.trans (e2.trans (ext_of q2))
      obtain ⟨dx, fs, i1, i2⟩ := ins (m := "dues") e (by decide +kernel) (by decide +kernel)
      exact ⟨_, rfl, p, dx, _, rfl, i1, i2, _, rfl, p, TT, ws, some n, rfl, hG.ext e, err q2, fun ok => (nok ok).elim⟩
    have e7 := e3.trans e7
    refine ref_step (fl := "what") (.str "ditch") T7 eBS (.inr ⟨_, rfl⟩) (fun H1 Q _ q => q) (fun H5 H6 Q' e2 q2 => ?_) (fun H8 e8 T8 => ⟨_, rfl, iteF ?_⟩)
    · have e := e7.trans (e2.trans (ext_of q2))
      obtain ⟨dx, fs, i1, i2⟩ := ins (m := "catch") e (by decide +kernel) (by decide +kernel)
      exact ⟨_, rfl, p, dx, _, rfl, i1, i2, _, rfl, _, rfl, p, TT, ws, some n, _, _, rfl, hG.ext e, err q2, (fun ok => (nok ok).elim), fun ok => (nok ok).elim⟩
    have e8 := e7.trans e8
    refine ref_step (fl := "what") (.str "ditch") T8 eBS (.inr ⟨_, rfl⟩) (fun H1 Q _ q => q) (fun H5 H6 Q' e2 q2 => ?_) (fun H9 e9 T9 => k _ (e8.trans e9) T9)
    · have e := e8.trans (e2.trans (ext_of q2))
      obtain ⟨dx, fs, i1, i2⟩ := ins (m := "catch") e (by decide +kernel) (by decide +kernel)
      exact ⟨_, rfl, p, dx, _, rfl, i1, i2, _, rfl, _, rfl, _, _, rfl, rfl, p, TT, ws, some n, _, _, rfl, hG.ext e, err q2, (fun ok => (nok ok).elim), fun ok => (nok ok).elim⟩
end
end K05
end
section
set_option maxRecDepth 100000
set_option maxHeartbeats 4000000
namespace K05
open PySem PySem.Spec PyProof.Rows L2
section
variable {P : Program} {w : World} {K : PySem.W.Frag} {mg : Str → Option Value} {base : Heap}
def spBeyond (K : PySem.W.Frag) : Sp := fun vs H Q _ => ∃ (T : Nat) (p : Addr) (ws : List (Int × Int)), vs = [.ref p] ∧ GOk K H p T ws ∧ LamX.Tabs (Tl K) H ∧ ∀ H', LamX.ExtN H H' → LamX.Tabs (Tl K) H' → Q (.bl true) H'
theorem ok__law_k05_beyond (T : Txt w K mg) (TB : TabsB K base mg) : Ok P w K mg base CX0 13 "_law_k05_beyond" ["garden"] (spBeyond K) := by
  refine Ok.defC (fl__law_k05_beyond T) (fun _ _ _ _ _ _ us hl => match us, hl with | [_], _ => rfl) sc__law_k05_beyond (fun vs H Q E h => ?_) (fun f A outer s H vs Q E hr h => ?_)
  · obtain ⟨TT, p, ws, rfl, _⟩ := h
    rfl
  · obtain ⟨TT, p, ws, rfl, hG, hT, k⟩ := h
    refine ⟨_, (pss_cons (ps_if (pt_not (pt_val (pe_refused (cc := (He.cT K ("_law_k05_beyond", none)).1) (P := (He.cT K ("_law_k05_beyond", none)).2) T (hr.mono (by decide)) rfl (TB _ (List.mem_of_getElem? (i := 2) rfl)) rfl (List.mem_of_getElem? (i := 2) rfl) (LamX.lamS_by (by kernel_rfl)) rfl (fun _ _ _ _ _ => rfl) (fun A outer s H E f c' hr => (pe_okM (okm_Garden_unfit T) (cl_Garden T) (pv 0) (hr.mono (by first | decide | omega)) (passes_call (takes_of rfl rfl rfl rfl) (fun _ _ _ _ h => h)) (pa_cons (pe_un un_neg pe_int) pa_nil))) (pa_cons (pe_tup (pa_cons pe_str (pa_cons pe_str pa_nil))) pa_nil)))) (pss_one (ps_ret pe_bl)) pss_nil)
      (pss_cons (ps_if (pt_not (pt_val (pe_refused (cc := (He.cT K ("_law_k05_beyond", none)).1) (P := (He.cT K ("_law_k05_beyond", none)).2) T (hr.mono (by decide)) rfl (TB _ (List.mem_of_getElem? (i := 2) rfl)) rfl (List.mem_of_getElem? (i := 2) rfl) (LamX.lamS_by (by kernel_rfl)) rfl (fun _ _ _ _ _ => rfl) (fun A outer s H E f c' hr => (pe_okM (okm_Garden_dues T) (cl_Garden T) (pv 0) (hr.mono (by first | decide | omega)) (passes_call (takes_of rfl rfl rfl rfl) (fun _ _ _ _ h => h)) (pa_cons (pe_un un_neg pe_int) pa_nil))) (pa_cons (pe_tup (pa_cons pe_str (pa_cons pe_str pa_nil))) pa_nil)))) (pss_one (ps_ret pe_bl)) pss_nil)
      (pss_cons (ps_if (pt_not (pt_val (pe_refused (cc := (He.cT K ("_law_k05_beyond", none)).1) (P := (He.cT K ("_law_k05_beyond", none)).2) T (hr.mono (by decide)) rfl (TB _ (List.mem_of_getElem? (i := 2) rfl)) rfl (List.mem_of_getElem? (i := 2) rfl) (LamX.lamS_by (by kernel_rfl)) rfl (fun _ _ _ _ _ => rfl) (fun A outer s H E f c' hr => (pe_okM (okm_Garden_catch T) (cl_Garden T) (pv 0) (hr.mono (by first | decide | omega)) (passes_call (takes_of rfl rfl rfl rfl) (fun _ _ _ _ h => h)) (pa_cons (pe_un un_neg pe_int) (pa_cons pe_int (pa_cons (pe_un un_neg pe_int) pa_nil))))) (pa_cons (pe_tup (pa_cons pe_str (pa_cons pe_str pa_nil))) pa_nil)))) (pss_one (ps_ret pe_bl)) pss_nil)
      (pss_cons (ps_set (i := 1) sc__law_k05_beyond.nd rfl (by first | exact Or.inl rfl | exact Or.inr rfl) (pe_op op_add (pe_op op_pow pe_int pe_int) pe_int))
      (pss_cons (ps_if (pt_not (pt_val (pe_refused (cc := (He.cT K ("_law_k05_beyond", none)).1) (P := (He.cT K ("_law_k05_beyond", none)).2) T (hr.mono (by decide)) rfl (TB _ (List.mem_of_getElem? (i := 2) rfl)) rfl (List.mem_of_getElem? (i := 2) rfl) (LamX.lamS_by (by kernel_rfl)) rfl (fun _ _ _ _ _ => rfl) (fun A outer s H E f c' hr => (pe_okM (okm_Garden_unfit T) (cl_Garden T) (pv 0) (hr.mono (by first | decide | omega)) (passes_call (takes_of rfl rfl rfl rfl) (fun _ _ _ _ h => h)) (pa_cons (pv 1) pa_nil))) (pa_cons (pe_tup (pa_cons pe_str (pa_cons pe_str pa_nil))) pa_nil)))) (pss_one (ps_ret pe_bl)) pss_nil)
      (pss_cons (ps_if (pt_not (pt_val (pe_refused (cc := (He.cT K ("_law_k05_beyond", none)).1) (P := (He.cT K ("_law_k05_beyond", none)).2) T (hr.mono (by decide)) rfl (TB _ (List.mem_of_getElem? (i := 2) rfl)) rfl (List.mem_of_getElem? (i := 2) rfl) (LamX.lamS_by (by kernel_rfl)) rfl (fun _ _ _ _ _ => rfl) (fun A outer s H E f c' hr => (pe_okM (okm_Garden_dues T) (cl_Garden T) (pv 0) (hr.mono (by first | decide | omega)) (passes_call (takes_of rfl rfl rfl rfl) (fun _ _ _ _ h => h)) (pa_cons (pv 1) pa_nil))) (pa_cons (pe_tup (pa_cons pe_str (pa_cons pe_str pa_nil))) pa_nil)))) (pss_one (ps_ret pe_bl)) pss_nil)
      (pss_one (ps_ret (pe_refused (cc := (He.cT K ("_law_k05_beyond", none)).1) (P := (He.cT K ("_law_k05_beyond", none)).2) T (hr.mono (by decide)) rfl (TB _ (List.mem_of_getElem? (i := 2) rfl)) rfl (List.mem_of_getElem? (i := 2) rfl) (LamX.lamS_by (by kernel_rfl)) rfl (fun _ _ _ _ _ => rfl) (fun A outer s H E f c' hr => (pe_okM (okm_Garden_catch T) (cl_Garden T) (pv 0) (hr.mono (by first | decide | omega)) (passes_call (takes_of rfl rfl rfl rfl) (fun _ _ _ _ h => h)) (pa_cons (pv 1) (pa_cons pe_int (pa_cons (pe_un un_neg pe_int) pa_nil))))) (pa_cons (pe_tup (pa_cons pe_str (pa_cons pe_str pa_nil))) pa_nil)))))))))), ?_⟩
    have eBS : ErrC K (cBS K) "BadSetting" "what" := .inr (.inr ⟨rfl, rfl, rfl⟩)
    have eTM : ErrC K (cTM K) "TooMany" "what" := .inl ⟨rfl, rfl, rfl⟩
    have nok : ∀ n : Int, n < 0 ∨ 10 ^ 12 < n → ¬ DOk (gM ws) TT (some n) := fun n h ok => by
      have := ok n rfl
      omega
    have errS : ∀ {H2 H3 : Hp} {n : Int}, n < 0 → Same H2 H3 → DErr K (Er (cBS K) "what" (.str "ditch") H2) H3 (gM ws) TT (some n) := fun hn q => ⟨fun m e z => by cases e; omega, fun m e z => rz_er q, fun m e z _ _ => by cases e; omega⟩
    have errT : ∀ {H2 H3 : Hp} {n : Int}, 10 ^ 12 < n → Same H2 H3 → DErr K (Er (cTM K) "what" (.str "cans") H2) H3 (gM ws) TT (some n) := fun hn q => ⟨fun m e z => rz_er q, fun m e z => by cases e; omega, fun m e _ z _ => by cases e; omega⟩
    have ins : ∀ {H'} {m : Str}, LamX.ExtN H H' → (m == ("days_number" : Str)) = false → (m == ("seed_list" : Str)) = false → ∃ dx fs, H' p = some (.ins (cG K) dx fs) ∧ fs.lookup m = none := fun e a b => (hG.ext e).1.nm a b
    refine ref_step (fl := "what") (.str "ditch") hT eBS (.inr ⟨_, rfl⟩) (fun H1 Q _ q => q) (fun H2 H3 Q' e2 q2 => ?_) (fun H6 e6 T6 => ⟨_, rfl, iteF ?_⟩)
    · have e := e2.trans (ext_of q2)
      obtain ⟨dx, fs, i1, i2⟩ := ins (m := "unfit") e (by decide +kernel) (by decide +kernel)
      have g := errS (n := -1) (by decide) q2
      exact ⟨_, rfl, p, dx, _, rfl, i1, i2, _, rfl, p, TT, ws, some (-1), rfl, hG.ext e, g.cans, g.sign, fun c => by have := c _ rfl; omega⟩
    refine ref_step (fl := "what") (.str "ditch") T6 eBS (.inr ⟨_, rfl⟩) (fun H1 Q _ q => q) (fun H2 H3 Q' e2 q2 => ?_) (fun H7 e7 T7 => ⟨_, rfl, iteF ?_⟩)
    · have e := e6.trans (e2.trans (ext_of q2))
      obtain ⟨dx, fs, i1, i2⟩ := ins (m := "dues") e (by decide +kernel) (by decide +kernel)
      exact ⟨_, rfl, p, dx, _, rfl, i1, i2, _, rfl, p, TT, ws, some (-2), rfl, hG.ext e, errS (by decide) q2, fun ok => (nok _ (.inl (by decide)) ok).elim⟩
    have e7 := e6.trans e7
    refine ref_step (fl := "what") (.str "ditch") T7 eBS (.inr ⟨_, rfl⟩) (fun H1 Q _ q => q) (fun H2 H3 Q' e2 q2 => ?_) (fun H8 e8 T8 => ⟨_, rfl, iteF ?_⟩)
    · have e := e7.trans (e2.trans (ext_of q2))
      obtain ⟨dx, fs, i1, i2⟩ := ins (m := "catch") e (by decide +kernel) (by decide +kernel)
      exact ⟨_, rfl, p, dx, _, rfl, i1, i2, _, rfl, _, rfl, p, TT, ws, some (-1), _, _, rfl, hG.ext e, errS (by decide) q2, (fun ok => (nok _ (.inl (by decide)) ok).elim), fun ok => (nok _ (.inl (by decide)) ok).elim⟩
    have e8 := e7.trans e8
    refine ⟨_, _, rfl, rfl, (by unfold CPow; decide), _, _, rfl, rfl, ?_⟩
    have hov : (10 : Int) ^ 12 < (10 : Int) ^ Int.toNat 12 + 1 := by decide
    refine ref_step (fl := "what") (.str "cans") T8 eTM (.inr ⟨_, rfl⟩) (fun H1 Q _ q => q) (fun H2 H3 Q' e2 q2 => ?_) (fun H9 e9 T9 => ⟨_, rfl, iteF ?_⟩)
    · have e := e8.trans (e2.trans (ext_of q2))
      obtain ⟨dx, fs, i1, i2⟩ := ins (m := "unfit") e (by decide +kernel) (by decide +kernel)
      have g := errT hov q2
      exact ⟨_, rfl, p, dx, _, rfl, i1, i2, _, rfl, p, TT, ws, some _, rfl, hG.ext e, g.cans, g.sign, fun c => by have := (c _ rfl).2; omega⟩
    have e9 := e8.trans e9
    refine ref_step (fl := "what") (.str "cans") T9 eTM (.inr ⟨_, rfl⟩) (fun H1 Q _ q => q) (fun H2 H3 Q' e2 q2 => ?_) (fun H10 e10 T10 => ⟨_, rfl, iteF ?_⟩)
    · have e := e9.trans (e2.trans (ext_of q2))
      obtain ⟨dx, fs, i1, i2⟩ := ins (m := "dues") e (by decide +kernel) (by decide +kernel)
      exact ⟨_, rfl, p, dx, _, rfl, i1, i2, _, rfl, p, TT, ws, some _, rfl, hG.ext e, errT hov q2, fun ok => (nok _ (.inr hov) ok).elim⟩
    have e10 := e9.trans e10
    refine ref_step (fl := "what") (.str "cans") T10 eTM (.inr ⟨_, rfl⟩) (fun H1 Q _ q => q) (fun H2 H3 Q' e2 q2 => ?_) (fun H11 e11 T11 => k _ (e10.trans e11) T11)
    · have e := e10.trans (e2.trans (ext_of q2))
      obtain ⟨dx, fs, i1, i2⟩ := ins (m := "catch") e (by decide +kernel) (by decide +kernel)
      exact ⟨_, rfl, p, dx, _, rfl, i1, i2, _, rfl, _, rfl, p, TT, ws, some _, _, _, rfl, hG.ext e, errT hov q2, (fun ok => (nok _ (.inr hov) ok).elim), fun ok => (nok _ (.inr hov) ok).elim⟩
end
end K05
end
section
set_option maxRecDepth 100000
set_option maxHeartbeats 4000000
namespace K05
open PySem PySem.Spec PyProof.Rows L2
theorem gM_le (ws : List (Int × Int)) (a b : Nat) : gM ws a b ≤ ws.length := by
  unfold gM inC
  have := List.length_filter_le (fun c : Int × Int => decide ((a : Int) < c.1) && decide (c.2 ≤ (b : Int))) ws
  omega
theorem gM_nn (ws : List (Int × Int)) (a b : Nat) : 0 ≤ gM ws a b := by
  unfold gM
  omega
theorem Bad.mono {M : Nat → Nat → Int} {h h' : Int} {a b : Nat} (hab : a < b) (e : h ≤ h') (g : Bad M h' a b) : Bad M h a b := by
  unfold Bad at g ⊢
  have : h * ((b : Int) - (a : Int)) ≤ h' * ((b : Int) - (a : Int)) := Int.mul_le_mul_of_nonneg_right e (by omega)
  omega
theorem ceil_ok {m k : Int} (hk : 1 ≤ k) (hm : 0 ≤ m) : 0 ≤ (m + k - 1).fdiv k ∧ (m + k - 1).fdiv k ≤ m + k - 1 ∧ m ≤ (m + k - 1).fdiv k * k ∧ ((m + k - 1).fdiv k - 1) * k < m := by
  rw [Int.fdiv_eq_ediv_of_nonneg _ (by omega)]
  have h1 := Int.mul_ediv_add_emod (m + k - 1) k
  have h2 := Int.emod_nonneg (m + k - 1) (show k ≠ 0 by omega)
  have h3 := Int.emod_lt_of_pos (m + k - 1) (show 0 < k by omega)
  have h0 : 0 ≤ (m + k - 1) / k := Int.ediv_nonneg (by omega) (by omega)
  have h4 : (m + k - 1) / k ≤ m + k - 1 := Int.ediv_le_self _ (by omega)
  rw [Int.mul_comm] at h1
  refine ⟨h0, h4, by omega, ?_⟩
  rw [Int.sub_mul, Int.one_mul]
  omega
section
variable {P : Program} {w : World} {K : PySem.W.Frag} {mg : Str → Option Value} {base : Heap}
def spLCounts : Sp := fun vs H Q _ => ∃ (T : Nat) (l : Addr) (xs : List V) (ws : List (Int × Int)), vs = [.int T, .ref l] ∧ H l = some (.lst xs) ∧ Paired (PairT H) xs ws ∧ T ≤ 24 ∧ ws.length ≤ 120 ∧ ∀ d H', H d = none → Same H H' → RowsAt H' d (gM ws) (T + 1) → Q (.ref d) H'
theorem ok__law_k05_counts (T : Txt w K mg) : Ok P w K mg base CX0 1 "_law_k05_counts" ["days", "windows"] spLCounts := by
  refine Ok.def0 (f__law_k05_counts T) (fun _ _ _ _ _ _ us hl => match us, hl with | [_, _], _ => rfl) sc__law_k05_counts (fun vs H Q E h => ?_) (fun f cdv A outer s H vs Q E hr h => ?_)
  · obtain ⟨TT, l, xs, ws, rfl, _⟩ := h
    rfl
  · obtain ⟨TT, l, xs, ws, rfl, h2, h3, hT, hl, k⟩ := h
    have hxl : xs.length ≤ 120 := by rw [Paired.length h3]; exact hl
    refine ⟨_, (pss_cons (ps_set (i := 2) sc__law_k05_counts.nd rfl (by first | exact Or.inl rfl | exact Or.inr rfl) (pe_lst pa_nil))
      (pss_cons (ps_for PassesOwn.never rfl (pi_range1 rfl (n_range T) (pa_cons (pe_op op_add (pv 0) pe_int) pa_nil)) (pg_name (i := 3) sc__law_k05_counts.nd rfl (by first | exact Or.inl rfl | exact Or.inr rfl))
        (pss_one (ps_expr (pe_bm PySem.F.plainAttrs_list PySem.F.slot_list_append PySem.F.type_list_append mt_append (pv 2) (pa_cons (pe_lc (own := [("b", 4)]) rfl sc__law_k05_counts.nd (pi_range1 rfl (n_range T) (pa_cons (pe_op op_add (pv 0) pe_int) pa_nil)) (blkOk_by (N := ["days", "windows", "rows", "a", "b", "window"]) (sc := defScope s__law_k05_counts) (by decide +kernel)) (fun _ _ _ _ _ => (pg_name (i := 4) sc__law_k05_counts.nd rfl (by first | exact Or.inl rfl | exact Or.inr rfl))) (fun _ _ _ _ _ => pts_nil) (fun _ _ _ _ _ => (pe_callB (len_seqK (K := K) rfl) rfl (n_len T) (by decide +kernel) (pa_cons (pe_lc (own := [("window", 5)]) rfl sc__law_k05_counts.nd (pi_listK (K := K) rfl (pv 1)) (by exact blkOk_by (by kernel_rfl)) (fun _ _ _ _ _ => (pg_name (i := 5) sc__law_k05_counts.nd rfl (by first | exact Or.inl rfl | exact Or.inr rfl))) (fun _ _ _ _ _ => pts_one (PW.pt (pw_and (pt_cmpR op_lt (pv 3) (pe_ix (ix_seqK (K := K) rfl) (pv 5) pe_int (fun _ _ => rfl)) (nomark _)) (pw_and1 (pt_cmpR op_le (pe_ix (ix_seqK (K := K) rfl) (pv 5) pe_int (fun _ _ => rfl)) (pv 4) (nomark _)))))) (fun _ _ _ _ _ => (pv 5))) pa_nil)))) pa_nil)))))
      (pss_one (ps_ret (pv 2))))), ?_⟩
    refine ⟨(by show 0 ≤ sizeLine; decide), fun D hD => ?_⟩
    obtain ⟨s1, g1⟩ := new2 (.lst []) hD
    refine ⟨_, rfl, _, _, rfl, rfl, _, rfl, by omega, by omega, for_upto (lo := 0) (L := TT + 1) (by omega) (fun t σ H' => ∃ v2 v3 v5, σ = [some (.int TT), some (.ref l), some (.ref D), v2, v3, v5] ∧ Same H H' ∧ ∃ rs : List Addr, H' D = some (.lst (rs.map V.ref)) ∧ rs.length = t ∧ ∀ a r, rs[a]? = some r → H' r = some (.lst (rowV (TT + 1) (gM ws a)))) ⟨_, _, _, rfl, s1, ([] : List Addr), g1, rfl, fun (a : Nat) (r : Addr) (h : ([] : List Addr)[a]? = some r) => absurd h (by simp)⟩ ?_ ?_⟩
    · rintro t σ H2 ht ⟨v2, v3, v5, rfl, e2, rs, hD2, hrl, hrs⟩
      have z1 : (0 : Int) + (t : Int) = (t : Nat) := by omega
      refine ⟨_, rfl, .inl ⟨rfl, _, SqL.of hD2⟩, _, rfl, _, _, rfl, rfl, _, rfl, by omega, by omega, fun D3 hD3 => lc_upto (lo := 0) (L := TT + 1) (by omega) hD3 (by omega) (fun j acc _ => acc = rowV j (gM ws t)) (fun _ _ => rfl) ?_ ?_⟩
      · rintro b acc H4 N N0 hb s4 hacc rfl hN hN0
        have e4 := e2.trans s4
        have z2 : (0 : Int) + (b : Int) = (b : Nat) := by omega
        refine ⟨rfl, ?_⟩
        refine ⟨_, rfl, l, rfl, ⟨_, SqL.of (e4 _ _ h2)⟩, fun D5 hD5 => lc_acc (K := K) (a := l) (xs := xs) hD5 (SqL.of (e4 _ _ h2)) (by omega) (fun j acc _ => acc.length = inC (t : Int) (b : Int) (ws.take j)) (fun _ _ => rfl) ?_ ?_⟩
        · rintro j x acc H5 N' N0' hx s5 hacc5 hI hN' hN0'
          obtain ⟨c, hc, hr⟩ := paired_get h3 hx
          have hr := hr.same (e4.trans s5)
          refine ⟨rfl, ?_⟩
          refine ⟨_, rfl, _, rfl, hr.i0 ⟨_, _, rfl, rfl, _, rfl, ?_⟩⟩
          rw [z1]
          have no : (decide ((t : Int) < c.1) && decide (c.2 ≤ (b : Int))) = false → N0' H5 := fun q => hN0' _ (Same.refl _) (by unfold inC; rw [flt_take hc false q]; exact hI)
          cases q1 : decide ((t : Int) < c.1) with
          | false => exact iteF (no (by rw [q1]; rfl))
          | true =>
            refine iteT ⟨_, rfl, hr.i1 ⟨_, rfl, _, _, rfl, rfl, _, rfl, ?_⟩⟩
            rw [z2]
            cases q2 : decide (c.2 ≤ (b : Int)) with
            | false => exact iteF (no (by rw [q1, q2]; rfl))
            | true => exact iteT ⟨_, rfl, hN' _ _ (Same.refl _) fun _ _ _ => by unfold inC; rw [List.length_append, flt_take hc true (by rw [q1, q2]; rfl)]; unfold inC at hI; rw [hI]; rfl⟩
        · rintro acc H5 s5 hacc5 hal hI
          rw [Paired.length h3, List.take_length] at hI
          refine ⟨D5, acc, rfl, .inl (SqL.of hacc5), hN _ _ s5 fun _ _ _ => ?_⟩
          unfold rowV
          rw [List.range_succ, List.map_append]
          show _ = _ ++ [V.int (gM ws t b)]
          unfold gM
          rw [← hI]
      · rintro acc H4 s4 hacc hal rfl
        have e4 := e2.trans s4
        have hD4 := s4 _ _ hD2
        refine ⟨D, _, _, rfl, rfl, hD4, line_lt (by rw [List.length_map]; omega), ?_⟩
        refine ⟨_, _, _, rfl, same_mut e4 hD, rs ++ [D3], by rw [upd_same, List.map_append]; rfl, by rw [List.length_append, hrl]; rfl, fun a q hq => ?_⟩
        have nD : q ≠ D → H4 q = some (.lst (rowV (TT + 1) (gM ws a))) → upd H4 D (.lst (rs.map V.ref ++ [V.ref D3])) q = some (.lst (rowV (TT + 1) (gM ws a))) := fun n h => by rw [upd_ne n]; exact h
        have hin : H4 q = some (.lst (rowV (TT + 1) (gM ws a))) := by
          rcases Nat.lt_or_ge a rs.length with c | c
          · rw [List.getElem?_append_left c] at hq
            exact s4 _ _ (hrs a q hq)
          · rw [List.getElem?_append_right c] at hq
            have e1 : a - rs.length = 0 := by
              rcases Nat.lt_or_ge (a - rs.length) 1 with p | p
              · omega
              · rw [List.getElem?_eq_none (by simpa using p)] at hq
                cases hq
            rw [e1] at hq
            cases hq
            have e2 : a = t := by omega
            rw [e2]
            exact hacc
        refine nD (fun z => ?_) hin
        rw [z, hD4] at hin
        have e1 := congrArg (fun l => l[0]?) (HO.lst.inj (Option.some.inj hin))
        have e2 := rowV_get (n := TT + 1) (f := gM ws a) (b := 0) (by omega)
        simp only [e2, List.getElem?_map] at e1
        cases q : rs[0]? with
        | none => rw [q] at e1; cases e1
        | some x => rw [q] at e1; cases e1
    · rintro σ H2 ⟨v2, v3, v5, rfl, e2, rs, hD2, hrl, hrs⟩
      exact ⟨_, rfl, k D H2 hD e2 ⟨rs, hD2, hrl, hrs⟩⟩
def spLeast : Sp := fun vs H Q _ => ∃ (T : Nat) (g : Addr) (M : Nat → Nat → Int), vs = [.int T, .ref g] ∧ RowsAt H g M (T + 1) ∧ T ≤ 24 ∧ (∀ a b, 0 ≤ M a b ∧ M a b ≤ 120) ∧ ∀ L, 0 ≤ L → L ≤ 200 → (∀ a b, a < b → b ≤ T → ¬ Bad M L a b) → (∀ h, 0 ≤ h → h < L → ∃ a b, a < b ∧ b ≤ T ∧ Bad M h a b) → Q (.int L) H
theorem ok__law_k05_least_fit (T : Txt w K mg) : Ok P w K mg base CX0 1 "_law_k05_least_fit" ["days", "counts"] spLeast := by
  refine Ok.def0 (f__law_k05_least_fit T) (fun _ _ _ _ _ _ us hl => match us, hl with | [_, _], _ => rfl) sc__law_k05_least_fit (fun vs H Q E h => ?_) (fun f cdv A outer s H vs Q E hr h => ?_)
  · obtain ⟨TT, g, M, rfl, _⟩ := h
    rfl
  · obtain ⟨TT, g, M, rfl, hG, hT, hM, k⟩ := h
    refine ⟨_, (pss_cons (ps_set (i := 2) sc__law_k05_least_fit.nd rfl (by first | exact Or.inl rfl | exact Or.inr rfl) pe_int)
      (pss_cons (ps_for PassesOwn.never rfl (pi_range2 rfl (n_range T) (pa_cons pe_int (pa_cons (pe_op op_add (pv 0) pe_int) pa_nil))) (pg_name (i := 3) sc__law_k05_least_fit.nd rfl (by first | exact Or.inl rfl | exact Or.inr rfl))
        (pss_one (ps_for PassesOwn.never rfl (pi_range1 rfl (n_range T) (pa_cons (pv 3) pa_nil)) (pg_name (i := 4) sc__law_k05_least_fit.nd rfl (by first | exact Or.inl rfl | exact Or.inr rfl))
        (pss_one (ps_set (i := 2) sc__law_k05_least_fit.nd rfl (by first | exact Or.inl rfl | exact Or.inr rfl) (pe_callB (call_max2 rfl) rfl (n_max T) (by decide +kernel) (pa_cons (pv 2) (pa_cons (pe_op op_fdivN (pe_op op_sub (pe_op op_sub (pe_op op_add (pe_ix (ix_seqK (K := K) rfl) (pe_ix (ix_listK (K := K) rfl) (pv 1) (pv 4) (fun _ _ => rfl)) (pv 3) (fun _ _ => rfl)) (pv 3)) (pv 4)) pe_int) (pe_op op_sub (pv 3) (pv 4))) pa_nil))))))))
      (pss_one (ps_ret (pv 2))))), ?_⟩
    refine ⟨_, rfl, _, _, rfl, rfl, 1, TT + 1, rfl, by omega, for_upto (lo := 1) (L := TT) (by omega) (fun b σ H' => ∃ v3 v4 L, σ = [some (.int TT), some (.ref g), some (.int L), v3, v4] ∧ H' = H ∧ 0 ≤ L ∧ L ≤ 200 ∧ (∀ a' b', a' < b' → b' < b + 1 → ¬ Bad M L a' b') ∧ (∀ h, 0 ≤ h → h < L → ∃ a b, a < b ∧ b ≤ TT ∧ Bad M h a b)) ⟨_, _, 0, rfl, rfl, by omega, by omega, fun a' b' h1 h2 => by omega, fun h h1 h2 => by omega⟩ ?_ ?_⟩
    · rintro b σ H' hb ⟨v3, v4, L, rfl, rfl, hL0, hL1, hgood, hleast⟩
      refine ⟨_, rfl, _, rfl, by omega, by omega, for_upto (lo := 0) (L := b + 1) (by omega) (fun a σ H0 => ∃ v4 L, σ = [some (.int TT), some (.ref g), some (.int L), some (.int (1 + (b : Int))), v4] ∧ H0 = H' ∧ 0 ≤ L ∧ L ≤ 200 ∧ (∀ a' b', a' < b' → b' < b + 1 → ¬ Bad M L a' b') ∧ (∀ a', a' < a → ¬ Bad M L a' (b + 1)) ∧ (∀ h, 0 ≤ h → h < L → ∃ a b, a < b ∧ b ≤ TT ∧ Bad M h a b)) ⟨_, _, rfl, rfl, hL0, hL1, hgood, fun a' h1 => by omega, hleast⟩ ?_ ?_⟩
      · rintro a σ H0 ha ⟨v4, L, rfl, rfl, hL0, hL1, hgood, hg2, hleast⟩
        obtain ⟨rs, r, q1, q2, q3, q4⟩ := hG.get (a := a) (b := b + 1) (by omega) (by omega)
        have z1 : (0 : Int) + (a : Int) = (a : Nat) := by omega
        have z2 : (1 : Int) + (b : Int) = ((b + 1 : Nat) : Int) := by omega
        refine ⟨_, rfl, _, rfl, _, rfl, g, _, _, _, rfl, rfl, SqL.of q1, at_of z1 q2, _, rfl, .inl ⟨r, _, _, _, rfl, rfl, SqL.of q3, at_of z2 q4, ?_⟩⟩
        refine ⟨_, rfl, _, _, rfl, rfl, _, rfl, _, _, rfl, rfl, _, _, rfl, rfl, _, rfl, _, rfl, _, _, rfl, rfl, _, _, rfl, rfl, ⟨by omega, by omega⟩, _, _, rfl, ?_⟩
        rw [max2, z1, z2]
        have ek : M a (b + 1) + ((b + 1 : Nat) : Int) - (a : Int) - 1 = M a (b + 1) + (((b + 1 : Nat) : Int) - (a : Int)) - 1 := by omega
        obtain ⟨c0, c1, c2, c3⟩ := ceil_ok (m := M a (b + 1)) (k := ((b + 1 : Nat) : Int) - (a : Int)) (by omega) (hM a (b + 1)).1
        have hM1 := (hM a (b + 1)).2
        show gName 2 (V.int (max L ((M a (b + 1) + ((b + 1 : Nat) : Int) - (a : Int) - 1).fdiv (((b + 1 : Nat) : Int) - (a : Int))))) _ _ _
        rw [ek]
        generalize (M a (b + 1) + (((b + 1 : Nat) : Int) - (a : Int)) - 1).fdiv (((b + 1 : Nat) : Int) - (a : Int)) = q at c0 c1 c2 c3 ⊢
        refine ⟨_, max L q, rfl, rfl, by omega, by omega, fun a' b' h1 h2 z => hgood a' b' h1 h2 (Bad.mono h1 (Int.le_max_left _ _) z), fun a' h1 z => ?_, fun h h1 h2 => ?_⟩
        · by_cases e : a' = a
          · subst e
            have := Bad.mono (by omega) (Int.le_max_right L q) z
            unfold Bad at this
            omega
          · exact hg2 a' (by omega) (Bad.mono (by omega) (Int.le_max_left _ _) z)
        · by_cases e : h < L
          · exact hleast h h1 e
          · refine ⟨a, b + 1, ha, by omega, Bad.mono (h' := q - 1) ha (by omega) ?_⟩
            unfold Bad
            omega
      · rintro σ H0 ⟨v4, L, rfl, rfl, hL0, hL1, hgood, hg2, hleast⟩
        refine ⟨_, _, L, rfl, rfl, hL0, hL1, fun a' b' h1 h2 => ?_, hleast⟩
        by_cases e : b' = b + 1
        · subst e
          exact hg2 a' h1
        · exact hgood a' b' h1 (by omega)
    · rintro σ H' ⟨v3, v4, L, rfl, rfl, hL0, hL1, hgood, hleast⟩
      exact ⟨_, rfl, k L hL0 hL1 (fun a b h1 h2 => hgood a b h1 (by omega)) hleast⟩
end
end K05
end
section
set_option maxRecDepth 100000
set_option maxHeartbeats 4000000
namespace K05
open PySem PySem.Spec PyProof.Rows L2
/-- days, windows and their counts handed on together -/
def WorldAt (H : Hp) (x : V) (c : Nat × List (Int × Int)) : Prop := ∃ (t l g : Addr) (xs : List V), x = .ref t ∧ H t = some (.tup [.int (c.1 : Int), .ref l, .ref g]) ∧ H l = some (.lst xs) ∧ Paired (PairT H) xs c.2 ∧ RowsAt H g (gM c.2) (c.1 + 1)
def WGood (c : Nat × List (Int × Int)) : Prop := 3 ≤ c.1 ∧ c.1 ≤ 24 ∧ c.2.length ≤ 120 ∧ ∀ d ∈ c.2, VW c.1 d
theorem WorldAt.same {H H' : Hp} {x : V} {c : Nat × List (Int × Int)} (e : Same H H') (h : WorldAt H x c) : WorldAt H' x c := by
  obtain ⟨t, l, g, xs, h1, h2, h3, h4, h5⟩ := h
  exact ⟨t, l, g, xs, h1, e _ _ h2, e _ _ h3, Paired.mapP h4 fun _ _ z => z.same e, h5.same e⟩
theorem no_stk {H : Hp} {a b d : Int} {ws : List (Int × Int)} (h : Paired (PairT H) [V.int a, V.int b, V.int d] ws) : False := by
  cases h with
  | cons r _ =>
    obtain ⟨q, e, _⟩ := r
    cases e
theorem WorldAt.bx {H H' : Hp} {sa : Addr} {x : V} {c : Nat × List (Int × Int)} (g3 : 3 ≤ c.1) (hst : Stk H sa) (e : Bx sa H H') (h : WorldAt H x c) : WorldAt H' x c := by
  obtain ⟨t, l, g, xs, h1, h2, h3, h4, h5⟩ := h
  have nl : l ≠ sa := fun z => by
    obtain ⟨a, b, d, w⟩ := hst
    rw [← z, h3] at w
    cases w
    exact no_stk h4
  exact ⟨t, l, g, xs, h1, e.tup (ne_stk hst h2 fun _ z => by cases z) h2, e.lst nl h3, Paired.mapP h4 fun _ _ z => z.bx hst e, RowsAt.bx (by omega) hst e h5⟩
/-- the heap without one address -/
def er (w : Addr) (H : Hp) : Hp := fun b => if b = w then none else H b
theorem er_ne {w b : Addr} {H : Hp} (n : b ≠ w) : er w H b = H b := by unfold er; rw [if_neg n]
theorem er_same {w : Addr} {H : Hp} : Same (er w H) H := fun b o h => by
  unfold er at h
  split at h
  · cases h
  · exact h
theorem er_mono {w : Addr} {H H' : Hp} (e : Same H H') : Same (er w H) (er w H') := fun b o h => by
  unfold er at h ⊢
  split at h
  · cases h
  · rename_i n
    rw [if_neg n]
    exact e _ _ h
theorem er_upd {w : Addr} {H : Hp} {o : HO} : er w (upd H w o) = er w H := by
  funext b
  unfold er
  split
  · rfl
  · rename_i n
    rw [upd_ne n]
theorem PairT.er {w : Addr} {H : Hp} {ys : List V} {x : V} {c : Int × Int} (hw : H w = some (.lst ys)) (h : PairT H x c) : PairT (er w H) x c := by
  obtain ⟨t, rfl, h⟩ := h
  exact ⟨t, rfl, by rw [er_ne fun z => by rw [z, hw] at h; cases h]; exact h⟩
theorem RowsAt.er {w g : Addr} {H : Hp} {M : Nat → Nat → Int} {n : Nat} {ys : List V} (hw : H w = some (.lst ys)) (hn : ys.length < n) (h : RowsAt H g M n) : RowsAt (er w H) g M n := by
  obtain ⟨rs, h1, h2, h3⟩ := h
  refine ⟨rs, ?_, h2, fun a r ha => ?_⟩
  · rw [er_ne fun z => ?_]
    · exact h1
    · rw [z, hw] at h1
      have := congrArg List.length (HO.lst.inj (Option.some.inj h1))
      rw [List.length_map] at this
      omega
  · rw [er_ne fun z => ?_]
    · exact h3 a r ha
    · have h3 := h3 a r ha
      rw [z, hw] at h3
      have := congrArg List.length (HO.lst.inj (Option.some.inj h3))
      rw [rowV_len] at this
      omega
theorem GardenN.keep {K : PySem.W.Frag} {H0 H H' : Hp} {D p : Addr} {o : HO} {ys : List V} {d : Int} {ws : List (Int × Int)} (hD : H D = some (.lst ys)) (b : But D H H') (h : GardenN K (upd H0 D o) H p d ws) : GardenN K (upd H0 D o) H' p d ws := by
  obtain ⟨dx, l, xs, z0, z1, z2, z3⟩ := h
  refine ⟨dx, l, xs, z0, b _ _ z1 (fun y => by rw [y, hD] at z1; cases z1), b _ _ z2 (fun y => by rw [y, upd_same] at z0; cases z0), Paired.mapP z3 fun _ _ z => ?_⟩
  obtain ⟨u, rfl, z⟩ := z
  exact ⟨u, rfl, b _ _ z fun y => by rw [y, hD] at z; cases z⟩
theorem same_but {H H' H1 H5 : Hp} {p : Addr} (e : Same H H') (n : H' p = none) (s : Same H' H1) (b : But p H1 H5) : Same H H5 := fun c o h => b c o (s _ _ (e _ _ h)) fun z => by rw [← z, e _ _ h] at n; cases n
theorem mt_pair {H : Hp} {x y : V} {c : Int × Int} (h1 : PairT H x c) (h2 : PairT H y c) : Mt 1 H x y := by
  obtain ⟨t, rfl, ht⟩ := h1
  obtain ⟨u, rfl, hu⟩ := h2
  refine .inr ⟨t, u, _, _, rfl, rfl, .inr ⟨ht, hu⟩, rfl, (by show 2 ≤ 1000; decide), fun i x y hx hy => ?_⟩
  rw [hx] at hy
  cases hy
  rcases i with _ | _ | i
  · cases hx; exact .inl ⟨_, rfl, rfl⟩
  · cases hx; exact .inl ⟨_, rfl, rfl⟩
  · cases hx
theorem mt_pairs {H : Hp} {a b : Addr} {xs ys : List V} {ws : List (Int × Int)} (hz : ws.length ≤ 1000) (ha : H a = some (.lst xs)) (hb : H b = some (.lst ys)) (h1 : Paired (PairT H) xs ws) (h2 : Paired (PairT H) ys ws) : Mt 2 H (.ref a) (.ref b) := by
  refine .inr ⟨a, b, _, _, rfl, rfl, .inl ⟨ha, hb⟩, by rw [Paired.length h1, Paired.length h2], by rw [Paired.length h2]; exact hz, fun i x y hx hy => ?_⟩
  obtain ⟨c, hc, r1⟩ := paired_get h1 hx
  obtain ⟨d, hd, r2⟩ := paired_get h2 hy
  rw [hc] at hd
  cases hd
  exact mt_pair r1 r2
theorem via {te : TE} {σ : L2.St} {H : Hp} {K : VK} (PV : V → Hp → Prop) (h : ∀ R : VK, (∀ v H', PV v H' → R v H') → te σ H R) (q : ∀ v H', PV v H' → K v H') : te σ H K := h K q
theorem Stk.ext {H H' : Hp} {sa : Addr} (h : Stk H sa) (e : LamX.ExtN H H') : Stk H' sa := by
  obtain ⟨x, y, z, h⟩ := h
  exact ⟨x, y, z, ext_lst e h⟩
section
variable {P : Program} {w : World} {K : PySem.W.Frag} {mg : Str → Option Value} {base : Heap}
def spLaw (K : PySem.W.Frag) : Sp := fun vs H Q _ => ∃ (a : Addr) (ns : List Int), vs = [.ref a] ∧ SqL K H a (ns.map V.int) ∧ ns.length ≤ 63 ∧ LamX.Tabs (Tl K) H ∧ ∀ H', Q (.bl true) H'
theorem fn_law (T : Txt w K mg) (TB : TabsB K base mg) {f : Addr} {fd : FuncData} (F : FnP K "law" s_law f fd) : FnG P w K mg base 15 f fd ["script"] (spLaw K) := by
  refine LamX.fnG_def0 F sc_law (fun vs H Q E h => ?_) (fun f cdv A outer s H vs Q hr hgd h => ?_)
  · obtain ⟨a, ns, rfl, _⟩ := h
    rfl
  · obtain ⟨a, ns, rfl, hS, hl, hT, k⟩ := h
    let E : XK := E0
    have ok__law_matches := fun (T : Txt w K mg) => ok_mt2 (P := P) (base := base) T
    have ok__law_k05_days := fun (T : Txt w K mg) => K05.ok__law_k05_days (P := P) T TB
    have ok__law_k05_unfit_asked := fun (T : Txt w K mg) => K05.ok__law_k05_unfit_asked (P := P) T TB
    have ok__law_k05_beyond := fun (T : Txt w K mg) => K05.ok__law_k05_beyond (P := P) T TB
    refine ⟨_, (pss_cons (ps_set (i := 1) sc_law.nd rfl (by first | exact Or.inl rfl | exact Or.inr rfl) (pe_ok (ok__law_stock T) (hr.mono (by first | decide | omega)) rfl pass0 (pa_cons (pv 0) (pa_cons pe_int pa_nil))))
      (pss_cons (ps_set (i := 2) sc_law.nd rfl (by first | exact Or.inl rfl | exact Or.inr rfl) (pe_cmpR op_eq (pe_ok (ok__law_draw T) (hr.mono (by first | decide | omega)) rfl pass0 (pa_cons (pv 1) (pa_cons pe_int pa_nil))) pe_int (nomark _)))
      (pss_cons (ps_set (i := 3) sc_law.nd rfl (by first | exact Or.inl rfl | exact Or.inr rfl) (pe_lst pa_nil))
      (pss_cons (ps_for PassesOwn.never rfl (pi_range1 rfl (n_range T) (pa_cons pe_int pa_nil)) (pg_name (i := 4) sc_law.nd rfl (by first | exact Or.inl rfl | exact Or.inr rfl))
        (pss_cons (ps_set (i := 5) sc_law.nd rfl (by first | exact Or.inl rfl | exact Or.inr rfl) (pe_ok (ok__law_stock T) (hr.mono (by first | decide | omega)) rfl pass0 (pa_cons (pv 0) (pa_cons (pv 4) pa_nil))))
      (pss_cons (ps_set (i := 6) sc_law.nd rfl (by first | exact Or.inl rfl | exact Or.inr rfl) (pe_ifExp (PW.pt (pw_and (pt_val (pv 2)) (pw_and1 (pt_cmpR op_eq (pv 4) pe_int (nomark _))))) (pe_op op_add pe_int (pe_ok (ok__law_draw T) (hr.mono (by first | decide | omega)) rfl pass0 (pa_cons (pv 5) (pa_cons pe_int pa_nil)))) (pe_op op_add pe_int (pe_ok (ok__law_draw T) (hr.mono (by first | decide | omega)) rfl pass0 (pa_cons (pv 5) (pa_cons pe_int pa_nil))))))
      (pss_cons (ps_set (i := 7) sc_law.nd rfl (by first | exact Or.inl rfl | exact Or.inr rfl) (pe_ifExp (PW.pt (pw_and (pt_val (pv 2)) (pw_and1 (pt_cmpR op_eq (pv 4) pe_int (nomark _))))) (pe_op op_add pe_int (pe_ok (ok__law_draw T) (hr.mono (by first | decide | omega)) rfl pass0 (pa_cons (pv 5) (pa_cons pe_int pa_nil)))) (pe_ok (ok__law_draw T) (hr.mono (by first | decide | omega)) rfl pass0 (pa_cons (pv 5) (pa_cons pe_int pa_nil)))))
      (pss_cons (ps_set (i := 8) sc_law.nd rfl (by first | exact Or.inl rfl | exact Or.inr rfl) (pe_ok (ok__law_b_windows T) (hr.mono (by first | decide | omega)) rfl pass0 (pa_cons (pv 5) (pa_cons (pv 6) (pa_cons (pv 7) pa_nil)))))
      (pss_one (ps_expr (pe_bm PySem.F.plainAttrs_list PySem.F.slot_list_append PySem.F.type_list_append mt_append (pv 3) (pa_cons (pe_tup (pa_cons (pv 6) (pa_cons (pv 8) (pa_cons (pe_ok (ok__law_k05_counts T) (hr.mono (by first | decide | omega)) rfl pass0 (pa_cons (pv 6) (pa_cons (pv 8) pa_nil))) pa_nil)))) pa_nil)))))))))
      (pss_cons (ps_setLc (i := 10) (own := [("world", 9)]) rfl sc_law.nd rfl rfl (sw_true rfl rfl rfl (by decide +kernel)) (pi_listK (K := K) rfl (pv 3)) (blkOk_by (N := ["script", "stock", "great", "worlds", "at", "one", "days", "many", "windows", "world", "made", "third", "counts", "least", "h"]) (sc := defScope s_law) (by decide +kernel)) (fun _ _ _ _ _ => (pg_name (i := 9) sc_law.nd rfl (by first | exact Or.inl rfl | exact Or.inr rfl))) (fun _ _ _ _ _ => pts_nil) (fun _ _ _ _ _ => (pe_okK (okk_Garden T) (hr.mono (by first | decide | omega)) rfl passL (pa_cons (pe_ix (ix_seqK (K := K) rfl) (pv 9) pe_int (fun _ _ => rfl)) (pa_cons (pe_callTy (list_ofK (K := K) rfl) rfl (n_list T) (by decide +kernel) (pa_cons (pe_ix (ix_seqK (K := K) rfl) (pv 9) pe_int (fun _ _ => rfl)) pa_nil)) pa_nil)))))
      (pss_cons (ps_set (i := 11) sc_law.nd rfl (by first | exact Or.inl rfl | exact Or.inr rfl) (pe_ok (ok__law_stock T) (hr.mono (by first | decide | omega)) rfl pass0 (pa_cons (pv 0) (pa_cons pe_int pa_nil))))
      (pss_cons (ps_for PassesOwn.never rfl (pi_range1 rfl (n_range T) (pa_cons pe_int pa_nil)) (pg_name (i := 4) sc_law.nd rfl (by first | exact Or.inl rfl | exact Or.inr rfl))
        (pss_cons (ps_asg (pe_ix (ix_listK (K := K) rfl) (pv 3) (pv 4) (fun _ _ => rfl)) (pg_tupK (K := K) (n := 3) rfl rfl (pgs_cons (pg_name (i := 6) sc_law.nd rfl (by first | exact Or.inl rfl | exact Or.inr rfl)) (pgs_cons (pg_name (i := 8) sc_law.nd rfl (by first | exact Or.inl rfl | exact Or.inr rfl)) (pgs_cons (pg_name (i := 12) sc_law.nd rfl (by first | exact Or.inl rfl | exact Or.inr rfl)) pgs_nil)))))
      (pss_cons (ps_set (i := 13) sc_law.nd rfl (by first | exact Or.inl rfl | exact Or.inr rfl) (pe_ok (ok__law_k05_least_fit T) (hr.mono (by first | decide | omega)) rfl pass0 (pa_cons (pv 6) (pa_cons (pv 12) pa_nil))))
      (pss_cons (ps_for PassesOwn.never rfl (pi_listK (K := K) rfl (pe_lst (pa_cons (pv 13) (pa_cons pe_non (pa_cons (pe_op op_add (pv 13) pe_int) (pa_cons (pe_op op_pow pe_int pe_int) (pa_cons (pe_op op_add (pe_op op_add (pv 13) pe_int) (pe_ok (ok__law_draw T) (hr.mono (by first | decide | omega)) rfl pass0 (pa_cons (pv 11) (pa_cons pe_int pa_nil)))) pa_nil))))))) (pg_name (i := 14) sc_law.nd rfl (by first | exact Or.inl rfl | exact Or.inr rfl))
        (pss_one (ps_if (pt_not (pt_val (pe_ok (ok__law_k05_fit T) (hr.mono (by first | decide | omega)) rfl pass0 (pa_cons (pv 11) (pa_cons (pv 6) (pa_cons (pv 12) (pa_cons (pv 14) (pa_cons (pe_ix (ix_listK (K := K) rfl) (pv 10) (pv 4) (fun _ _ => rfl)) pa_nil)))))))) (pss_one (ps_ret pe_bl)) pss_nil)))
      (pss_cons (ps_for PassesOwn.never rfl (pi_listK (K := K) rfl (pe_op op_cat (pe_listRg rfl rfl (n_list T) (prg_2 rfl (n_range T) (pe_callB (call_max2 rfl) rfl (n_max T) (by decide +kernel) (pa_cons pe_int (pa_cons (pe_op op_sub (pv 13) pe_int) pa_nil))) (pv 13))) (pe_ifExp (pt_cmpR op_gt (pv 13) pe_int (nomark _)) (pe_lst (pa_cons pe_int pa_nil)) (pe_lst pa_nil)))) (pg_name (i := 14) sc_law.nd rfl (by first | exact Or.inl rfl | exact Or.inr rfl))
        (pss_one (ps_if (pt_not (pt_val (pe_ok (ok__law_k05_unfit_asked T) (hr.mono (by first | decide | omega)) rfl pass0 (pa_cons (pv 6) (pa_cons (pv 12) (pa_cons (pv 14) (pa_cons (pe_ix (ix_listK (K := K) rfl) (pv 10) (pv 4) (fun _ _ => rfl)) pa_nil))))))) (pss_one (ps_ret pe_bl)) pss_nil)))
      (pss_cons (ps_if (PW.pt (pw_or (pt_not (pt_val (pe_ok (ok__law_k05_days T) (hr.mono (by first | decide | omega)) rfl pass0 (pa_cons (pv 6) (pa_cons (pe_ix (ix_listK (K := K) rfl) (pv 10) (pv 4) (fun _ _ => rfl)) (pa_cons (pv 13) pa_nil)))))) (pw_or1 (pt_not (pt_val (pe_ok (ok__law_k05_days T) (hr.mono (by first | decide | omega)) rfl pass0 (pa_cons (pv 6) (pa_cons (pe_ix (ix_listK (K := K) rfl) (pv 10) (pv 4) (fun _ _ => rfl)) (pa_cons pe_non pa_nil))))))))) (pss_one (ps_ret pe_bl)) pss_nil)
      (pss_one (ps_if (pt_not (pt_val (pe_ok (ok__law_k05_beyond T) (hr.mono (by first | decide | omega)) rfl pass0 (pa_cons (pe_ix (ix_listK (K := K) rfl) (pv 10) (pv 4) (fun _ _ => rfl)) pa_nil)))) (pss_one (ps_ret pe_bl)) pss_nil))))))))
      (pss_cons (ps_for PassesOwn.never rfl (pi_range1 rfl (n_range T) (pa_cons pe_int pa_nil)) (pg_name (i := 4) sc_law.nd rfl (by first | exact Or.inl rfl | exact Or.inr rfl))
        (pss_cons (ps_asg (pe_ix (ix_listK (K := K) rfl) (pv 3) (pv 4) (fun _ _ => rfl)) (pg_tupK (K := K) (n := 3) rfl rfl (pgs_cons (pg_name (i := 6) sc_law.nd rfl (by first | exact Or.inl rfl | exact Or.inr rfl)) (pgs_cons (pg_name (i := 8) sc_law.nd rfl (by first | exact Or.inl rfl | exact Or.inr rfl)) (pgs_cons (pg_name (i := 12) sc_law.nd rfl (by first | exact Or.inl rfl | exact Or.inr rfl)) pgs_nil)))))
      (pss_cons (ps_set (i := 13) sc_law.nd rfl (by first | exact Or.inl rfl | exact Or.inr rfl) (pe_ok (ok__law_k05_least_fit T) (hr.mono (by first | decide | omega)) rfl pass0 (pa_cons (pv 6) (pa_cons (pv 12) pa_nil))))
      (pss_one (ps_if (PW.pt (pw_or (pt_not (pt_val (pe_ok (ok__law_k05_fit T) (hr.mono (by first | decide | omega)) rfl pass0 (pa_cons (pv 11) (pa_cons (pv 6) (pa_cons (pv 12) (pa_cons (pv 13) (pa_cons (pe_ix (ix_listK (K := K) rfl) (pv 10) (pv 4) (fun _ _ => rfl)) pa_nil)))))))) (pw_or1 (pt_not (pt_val (pe_ok (ok__law_matches T) (hr.mono (by first | decide | omega)) rfl pass0 (pa_cons (pe_okM0 (okm_Garden_rows T) (cl_Garden T) (pe_ix (ix_listK (K := K) rfl) (pv 10) (pv 4) (fun _ _ => rfl)) (hr.mono (by first | decide | omega)) pass0) (pa_cons (pv 8) pa_nil)))))))) (pss_one (ps_ret pe_bl)) pss_nil)))))
      (pss_one (ps_ret pe_bl)))))))))), ?_⟩
    refine ⟨_, rfl, a, ns, 0, rfl, hS, hl, by decide, by decide, fun st H1 hst0 s1 hst1 => ?_⟩
    refine nxE (st_let (fun v H2 => ∃ g, v = .bl g ∧ Same H H2) (fun R hR => ?_) (fun v H2 hv => ?_))
    · exact ⟨_, rfl, st, 12, rfl, by decide, by decide, hst1, fun r x y z r0 r1 => ⟨rfl, hR _ _ ⟨_, rfl, same_but (Same.refl H) hst0 s1 (But.refl st H1).upd⟩⟩⟩
    obtain ⟨g, rfl, s2⟩ := hv
    refine ⟨(by show 0 ≤ sizeLine; decide), fun wl hwl => ?_⟩
    obtain ⟨s3, g3⟩ := new2 (.lst []) hwl
    have s3 := s2.trans s3
    generalize upd H2 wl (.lst []) = H3 at s3 g3 ⊢
    have hwl0 : H wl = none := none_of s2 hwl
    -- the worlds
    refine ⟨_, rfl, by decide, by decide, for_upto (lo := 0) (L := 2) rfl (fun j σ H' => ∃ v4 v5 v6 v7 v8, σ = [some (.ref a), some (.ref st), some (.bl g), some (.ref wl), v4, v5, v6, v7, v8, none, none, none, none, none, none] ∧ Same H H' ∧ ∃ acc cs, H' wl = some (.lst acc) ∧ Paired (WorldAt (er wl H')) acc cs ∧ cs.length = j ∧ ∀ c ∈ cs, WGood c) ⟨_, _, _, _, _, rfl, s3, [], [], g3, .nil, rfl, fun c hc => by cases hc⟩ ?_ ?_⟩
    · rintro j σ H' hj ⟨v4, v5, v6, v7, v8, rfl, e, acc, cs, hw, hW, hcs, hG⟩
      refine ⟨_, rfl, _, rfl, a, ns, _, rfl, e.seq hS, hl, by omega, by omega, fun sa H4 hsa s4 hst4 => ?_⟩
      refine nxE (st_let (fun v H5 => ∃ d : Nat, v = .int (d : Int) ∧ 3 ≤ d ∧ d ≤ 24 ∧ But sa H4 H5 ∧ Stk H5 sa) (fun R hR => ?_) (fun v H5 hv => ?_))
      · have other : (∀ r x y z, 0 ≤ r → r < 15 → R (.int (10 + r)) (upd H4 sa (stk x y z))) ∧ ∀ r x y z, 0 ≤ r → r < 5 → R (.int (3 + r)) (upd H4 sa (stk x y z)) :=
          ⟨fun r x y z r0 r1 => hR _ _ ⟨(10 + r).toNat, by rw [Int.toNat_of_nonneg (by omega)], by omega, by omega, (But.refl sa H4).upd, stk_upd⟩, fun r x y z r0 r1 => hR _ _ ⟨(3 + r).toNat, by rw [Int.toNat_of_nonneg (by omega)], by omega, by omega, (But.refl sa H4).upd, stk_upd⟩⟩
        cases g with
        | false => exact ⟨_, rfl, _, rfl, _, rfl, sa, 5, rfl, by decide, by decide, hst4, fun r x y z r0 r1 => ⟨_, _, rfl, rfl, other.2 r x y z r0 r1⟩⟩
        | true => exact ⟨_, rfl, _, rfl, _, rfl, rfl, _, rfl, ite2 (fun _ => ⟨_, rfl, sa, 15, rfl, by decide, by decide, hst4, fun r x y z r0 r1 => ⟨_, _, rfl, rfl, other.1 r x y z r0 r1⟩⟩) (fun _ => ⟨_, rfl, sa, 5, rfl, by decide, by decide, hst4, fun r x y z r0 r1 => ⟨_, _, rfl, rfl, other.2 r x y z r0 r1⟩⟩)⟩
      obtain ⟨d, rfl, d1, d2, b5, hst5⟩ := hv
      refine st_let (fun v H6 => ∃ n, v = .int n ∧ 0 ≤ n ∧ n ≤ 120 ∧ But sa H5 H6 ∧ Stk H6 sa) (fun R hR => ?_) (fun v H6 hv => ?_)
      · have other : (∀ r x y z, 0 ≤ r → r < 17 → R (.int (4 + r)) (upd H5 sa (stk x y z))) ∧ ∀ r x y z, 0 ≤ r → r < 9 → R (.int r) (upd H5 sa (stk x y z)) := ⟨fun r x y z r0 r1 => hR _ _ ⟨_, rfl, by omega, by omega, (But.refl sa H5).upd, stk_upd⟩, fun r x y z r0 r1 => hR _ _ ⟨_, rfl, by omega, by omega, (But.refl sa H5).upd, stk_upd⟩⟩
        cases g with
        | false => exact ⟨_, rfl, _, rfl, _, rfl, sa, 9, rfl, by decide, by decide, hst5, fun r x y z r0 r1 => other.2 r x y z r0 r1⟩
        | true => exact ⟨_, rfl, _, rfl, _, rfl, rfl, _, rfl, ite2 (fun _ => ⟨_, rfl, sa, 17, rfl, by decide, by decide, hst5, fun r x y z r0 r1 => ⟨_, _, rfl, rfl, other.1 r x y z r0 r1⟩⟩) (fun _ => ⟨_, rfl, sa, 9, rfl, by decide, by decide, hst5, fun r x y z r0 r1 => other.2 r x y z r0 r1⟩)⟩
      obtain ⟨n, rfl, n1, n2, b6, hst6⟩ := hv
      have b46 := b5.trans b6
      have nwl : wl ≠ sa := fun z => by rw [z] at hw; rw [hw] at hsa; cases hsa
      have hw6 := b46 _ _ (s4 _ _ hw) nwl
      refine ⟨_, rfl, _, rfl, _, rfl, sa, d, n, rfl, by omega, by omega, n1, by omega, hst6, fun l xs ws H7 hl7 b7 hst7 hL7 hP7 hlen hV => ?_⟩
      have b47 := b46.trans b7
      have hw7 := b47 _ _ (s4 _ _ hw) nwl
      have e7 : Same H' H7 := same_but (Same.refl H') hsa s4 b47
      have nlw : l ≠ wl := fun z => by rw [z] at hl7; rw [hw6] at hl7; cases hl7
      refine ⟨_, rfl, .inl ⟨rfl, _, SqL.of hw7⟩, _, rfl, _, rfl, _, rfl, _, rfl, d, l, xs, ws, rfl, hL7, hP7, d2, by omega, fun gg H8 hg8 s8 hR8 => ⟨(by show 3 ≤ sizeLine; decide), fun t ht => ?_⟩⟩
      obtain ⟨s9, g9⟩ := new2 (.tup [.int (d : Int), .ref l, .ref gg]) ht
      have s89 := s8.trans s9
      have w9 := s89 _ _ hw7
      have e9 := e7.trans s89
      have hal : acc.length = j := by rw [Paired.length hW]; exact hcs
      refine ⟨wl, acc, _, rfl, rfl, w9, line_lt (by omega), ?_⟩
      have one : WorldAt (er wl (upd H8 t (.tup [.int (d : Int), .ref l, .ref gg]))) (.ref t) (d, ws) := by
        refine ⟨t, l, gg, xs, rfl, ?_, ?_, Paired.mapP hP7 fun _ _ z => PairT.er w9 (z.same s89), RowsAt.er w9 (by show acc.length < d + 1; omega) (hR8.same s9)⟩
        · rw [er_ne fun z => by rw [z, s8 _ _ hw7] at ht; cases ht]
          exact g9
        · rw [er_ne nlw]
          exact s89 _ _ hL7
      refine ⟨_, _, _, _, _, rfl, same_mut (e.trans e9) hwl0, acc ++ [V.ref t], cs ++ [(d, ws)], upd_same, ?_, by rw [List.length_append, hcs]; rfl, fun c hc => ?_⟩
      · rw [er_upd]
        exact paired_snoc (Paired.mapP hW fun _ _ z => z.same (er_mono e9)) one
      · rcases List.mem_append.mp hc with hc | hc
        · exact hG c hc
        · rw [List.mem_singleton.mp hc]
          exact ⟨d1, d2, by show ws.length ≤ 120; omega, hV⟩
    · rintro σ H4 ⟨v4, v5, v6, v7, v8, rfl, s4, xw, cs, hw, hW, hcs, hGd⟩
      have hW := Paired.mapP hW fun _ _ z => z.same er_same
      have T4 := hT.ext s4
      have hxw : xw.length = 2 := by rw [Paired.length hW]; exact hcs
      clear s3 g3 s2 hst1 s1
      -- the gardens
      refine ⟨_, rfl, wl, rfl, ⟨_, SqL.of hw⟩, fun G hG => lc_acc (K := K) (a := wl) (xs := xw) hG (SqL.of hw) (by omega) (fun j gs H2 => Paired (fun x (c : Nat × List (Int × Int)) => ∃ p, x = V.ref p ∧ GardenN K (upd H4 G (.lst [])) H2 p c.1 c.2) gs (cs.take j)) (fun _ _ => .nil) ?_ ?_⟩
      · rintro j x gs H6 N N0 hx s6 hgs hI6 hN hN0
        obtain ⟨c, hc, hr⟩ := paired_get hW hx
        obtain ⟨t, l, gg, xs, rfl, w2, w3, w4, _⟩ := hr.same s6
        obtain ⟨c1, c2, c3, c4⟩ := hGd c (List.mem_of_getElem? hc)
        refine ⟨rfl, ?_⟩
        refine ⟨_, rfl, .inr (.inl ⟨t, _, 0, _, rfl, rfl, SqT.of w2, rfl, ?_⟩)⟩
        refine ⟨_, rfl, .inr (.inl ⟨t, _, 1, _, rfl, rfl, SqT.of w2, rfl, ⟨l, xs, rfl, .inl (SqL.of w3), fun h hh => ?_⟩⟩)⟩
        obtain ⟨s7, g7⟩ := new2 (.lst xs) hh
        have hxs : xs.length ≤ 120 := by rw [Paired.length w4]; exact c3
        refine made (K := K) (E := E0) (Q := N) g7 (Paired.mapP w4 fun _ _ z => z.same s7) (by omega) (GErr.ok (by omega) (by omega) c3 c4) fun _ _ _ _ gp H7 hgp s8 hN7 => ?_
        have s78 := s7.trans s8
        refine hN _ _ s78 fun H8 b8 _ => ?_
        rw [take_get hc]
        refine paired_snoc (Paired.mapP hI6 fun _ _ z => ?_) ⟨gp, rfl, GardenN.keep (s78 _ _ hgs) b8 ?_⟩
        · obtain ⟨p, rfl, z⟩ := z
          exact ⟨p, rfl, GardenN.keep (s78 _ _ hgs) b8 (z.same s78)⟩
        · obtain ⟨dx, l', xs', z0, z⟩ := hN7
          have z1 := none_of s7 z0
          exact ⟨dx, l', xs', by rw [upd_ne (fun y => by rw [y, hgs] at z1; cases z1)]; exact none_of s6 z1, z⟩
      · rintro gs H6 s6 hgs hgl hI6
        rw [hxw, ← hcs, List.take_length] at hI6
        have e6 := s4.trans s6
        -- third
        refine ⟨_, rfl, a, ns, 2, rfl, e6.seq hS, hl, by decide, by decide, fun th H7 hth s7 hth7 => ?_⟩
        have hth4 : H4 th = none := none_of s6 hth
        have hW7 : Paired (WorldAt H7) xw cs := Paired.mapP hW fun _ _ z => (z.same s6).same s7
        have hG7 : Paired (fun x (c : Nat × List (Int × Int)) => ∃ p, x = V.ref p ∧ GOk K H7 p c.1 c.2) gs cs := by
          have : ∀ {gs : List V} {cs : List (Nat × List (Int × Int))}, Paired (fun x (c : Nat × List (Int × Int)) => ∃ p, x = V.ref p ∧ GardenN K (upd H4 G (.lst [])) H6 p c.1 c.2) gs cs → (∀ c ∈ cs, WGood c) → Paired (fun x (c : Nat × List (Int × Int)) => ∃ p, x = V.ref p ∧ GOk K H7 p c.1 c.2) gs cs := by
            intro gs cs h hg
            induction h with
            | nil => exact .nil
            | cons a r ih =>
              obtain ⟨p, e, z⟩ := a
              obtain ⟨c1, c2, c3, c4⟩ := hg _ List.mem_cons_self
              exact .cons ⟨p, e, (z.same s7).at, c2, c3, c4⟩ (ih fun c hc => hg c (List.mem_cons_of_mem _ hc))
          exact this hI6 hGd
        have T7 := T4.ext (s6.trans s7)
        have hw7 := s7 _ _ (s6 _ _ hw)
        have hg7 := s7 _ _ hgs
        have nwl : wl ≠ th := fun z => by rw [z] at hw; rw [hw] at hth4; cases hth4
        have nG : G ≠ th := fun z => by rw [z] at hgs; rw [hgs] at hth; cases hth
        have hgl2 : gs.length = 2 := by rw [Paired.length hG7]; exact hcs
        have look : ∀ (j : Nat) (H' : Hp), j < 2 → Bx th H7 H' → ∃ t l gg p xs c, xw[j]? = some (V.ref t) ∧ gs[j]? = some (V.ref p) ∧ H' t = some (.tup [.int (c.1 : Int), .ref l, .ref gg]) ∧ H' l = some (.lst xs) ∧ Paired (PairT H') xs c.2 ∧ RowsAt H' gg (gM c.2) (c.1 + 1) ∧ GOk K H' p c.1 c.2 ∧ WGood c := fun j H' hj b => by
          obtain ⟨c, hc⟩ : ∃ c, cs[j]? = some c := ⟨cs[j], List.getElem?_eq_getElem (by omega)⟩
          obtain ⟨x, hx⟩ : ∃ x, xw[j]? = some x := ⟨xw[j]'(by omega), List.getElem?_eq_getElem _⟩
          obtain ⟨y, hy⟩ : ∃ y, gs[j]? = some y := ⟨gs[j]'(by omega), List.getElem?_eq_getElem _⟩
          obtain ⟨c', hc', hr⟩ := paired_get hW7 hx
          rw [hc] at hc'
          cases hc'
          obtain ⟨c', hc', p, rfl, hro⟩ := paired_get hG7 hy
          rw [hc] at hc'
          cases hc'
          have hgd := hGd c (List.mem_of_getElem? hc)
          obtain ⟨t, l, gg, xs, rfl, w2, w3, w4, w5⟩ := WorldAt.bx hgd.1 hth7 b hr
          exact ⟨t, l, gg, p, xs, c, hx, hy, w2, w3, w4, w5, GOk.bx hth7 b hro, hgd⟩
        clear hW hI6 hW7 hG7 hGd hgs hgl hw hth hG s7 s6
        refine ⟨_, rfl, by decide, by decide, for_upto (lo := 0) (L := 2) rfl (fun j σ H' => ∃ v4 v6 v8 v12 v13 v14, σ = [some (.ref a), some (.ref st), some (.bl g), some (.ref wl), v4, v5, v6, v7, v8, none, some (.ref G), some (.ref th), v12, v13, v14] ∧ Bx th H7 H' ∧ Stk H' th ∧ LamX.Tabs (Tl K) H') ⟨_, _, _, _, _, _, rfl, Bx.of_same (Same.refl _), hth7, T7⟩ ?_ ?_⟩
        · rintro j σ H8 hj ⟨v4, v6, v8, v12, v13, v14, rfl, b8, hst8, T8⟩
          obtain ⟨t, l, gg, p, xs, c, hx, hp, ht, hl', hP, hR, hGo, hgd⟩ := look j H8 hj b8
          obtain ⟨c1, c2, c3, c4⟩ := hgd
          refine ⟨_, rfl, _, rfl, wl, _, _, _, rfl, rfl, SqL.of (b8.lst nwl hw7), at_of (by omega) hx, ⟨t, _, rfl, SqT.of ht, rfl, _, _, rfl, _, _, rfl, _, _, rfl, rfl, ?_⟩⟩
          refine ⟨_, rfl, _, rfl, c.1, gg, gM c.2, rfl, hR, c2, (fun x y => ⟨gM_nn _ _ _, by have := gM_le c.2 x y; omega⟩), fun L L0 L1 hgood hleast => ?_⟩
          have okn : ∀ n : Int, L ≤ n → n ≤ 10 ^ 12 → DOk (gM c.2) c.1 (some n) := fun n h1 h2 m e => by
            cases e
            exact ⟨by omega, h2, fun x y h3 h4 hb => hgood x y h3 h4 (Bad.mono h3 h1 hb)⟩
          -- fits
          refine ⟨_, rfl, _, rfl, _, _, rfl, rfl, _, _, rfl, rfl, (by unfold CPow; decide), _, rfl, _, _, rfl, rfl, _, rfl, th, 3, rfl, by decide, by decide, hst8, fun r x y z r0 r1 => ⟨_, _, rfl, rfl, (by show 5 ≤ sizeLine; decide), fun ll hll => ?_⟩⟩
          have b9 : But th H8 (upd H8 th (stk x y z)) := (But.refl th H8).upd
          have hst9 : Stk (upd H8 th (stk x y z)) th := stk_upd
          have T9 := tabs_but T8 hst8 b9
          generalize upd H8 th (stk x y z) = H9 at b9 hst9 T9 hll ⊢
          have e12 : (10 : Int) ^ Int.toNat 12 = 10 ^ 12 := by decide
          obtain ⟨hs, hhs, hok⟩ : ∃ hs : List (Option Int), ([V.int L, V.non, V.int (L + 1), V.int ((10 : Int) ^ Int.toNat 12), V.int (L + 2 + r)] : List V) = hs.map hV ∧ ∀ h ∈ hs, DOk (gM c.2) c.1 h := by
            refine ⟨[some L, none, some (L + 1), some ((10 : Int) ^ Int.toNat 12), some (L + 2 + r)], rfl, fun h hh => ?_⟩
            simp only [List.mem_cons, List.not_mem_nil, or_false] at hh
            rcases hh with rfl | rfl | rfl | rfl | rfl
            · exact okn _ (by omega) (by omega)
            · exact fun n e => by cases e
            · exact okn _ (by omega) (by omega)
            · exact okn _ (by rw [e12]; omega) (by rw [e12]; exact Int.le_refl _)
            · exact okn _ (by omega) (by omega)
          show (fun x H1 => _) (V.ref ll) (upd H9 ll (HO.lst [V.int L, V.non, V.int (L + 1), V.int ((10 : Int) ^ Int.toNat 12), V.int (L + 2 + r)]))
          rw [hhs]
          obtain ⟨s10, g10⟩ := new2 (.lst (hs.map hV)) hll
          have T10 := T9.ext s10
          have hst10 := hst9.same s10
          have nll : ll ≠ th := fun z => hst9.ne (by rw [← z]; exact hll)
          generalize upd H9 ll (.lst (hs.map hV)) = H10 at s10 g10 T10 hst10 ⊢
          have B10 : Bx th H8 H10 := (Bx.of_but b9).trans (Bx.of_same s10)
          have kl : ∀ {H'}, Bx th H8 H' → H' l = some (.lst xs) := fun b => b.lst (fun w => by
            obtain ⟨q1, q2, q3, q4⟩ := hst8
            rw [w, q4] at hl'
            cases hl'
            exact no_stk hP) hl'
          have kg : ∀ {H'}, Bx th H8 H' → H' G = some (.lst gs) := fun b => b.lst nG (b8.lst nG hg7)
          refine ⟨ll, rfl, ⟨_, SqL.of g10⟩, for_list (K := K) (a := ll) (xs := hs.map hV) (fun i σ H' => ∃ v14, σ = [some (.ref a), some (.ref st), some (.bl g), some (.ref wl), some (.int (0 + (j : Int))), v5, some (.int (c.1 : Int)), v7, some (.ref l), none, some (.ref G), some (.ref th), some (.ref gg), some (.int L), v14] ∧ Bx th H10 H' ∧ Stk H' th ∧ LamX.Tabs (Tl K) H') ⟨_, rfl, Bx.of_same (Same.refl _), hst10, T10⟩ (fun _ _ _ _ ⟨_, _, b, _⟩ => SqL.of (b.lst nll g10)) ?_ ?_⟩
          · rintro i x' σ H11 hx' ⟨v14, rfl, b11, hst11, T11⟩
            rw [List.getElem?_map] at hx'
            obtain ⟨h, hh, rfl⟩ := Option.map_eq_some_iff.mp hx'
            have B11 := B10.trans b11
            refine ⟨_, rfl, _, rfl, _, rfl, _, rfl, _, rfl, _, rfl, G, _, _, _, rfl, rfl, SqL.of (kg B11), at_of (by omega) hp, ?_⟩
            refine ⟨th, c.1, gg, c.2, h, p, rfl, RowsAt.bx (by omega) hst8 B11 hR, GOk.bx hst8 B11 hGo, hok h (List.mem_of_getElem? hh), c1, hst11, fun H12 b12 hst12 => ⟨_, rfl, _, rfl, b11.trans (Bx.of_but b12), hst12, tabs_but T11 hst11 b12⟩⟩
          · rintro σ H11 ⟨v14, rfl, b11, hst11, T11⟩
            have B11 := B10.trans b11
            -- too little
            refine ⟨_, rfl, _, _, rfl, rfl, _, _, rfl, ?_⟩
            obtain ⟨lo, hlo, lo0, lo1⟩ : ∃ lo : Int, (if L - 3 > 0 then L - 3 else 0) = lo ∧ 0 ≤ lo ∧ (L < lo → False) := ⟨_, rfl, by split <;> omega, by split <;> omega⟩
            show (fun x H1 => _) (V.int (if L - 3 > 0 then L - 3 else 0)) H11
            rw [hlo]
            refine ⟨_, rfl, _, _, rfl, rfl, RgOk.of_le lo0 (by omega) (by omega) L0, fun q1 hq1 => ?_⟩
            obtain ⟨s12, g12⟩ := new2 (.lst (rgV lo L)) hq1
            have T12 := T11.ext s12
            generalize upd H11 q1 (.lst (rgV lo L)) = H12 at s12 g12 T12 ⊢
            refine via (fun v H' => ∃ (m2 : Addr) (ms : List Int), v = .ref m2 ∧ Same H12 H' ∧ H' m2 = some (.lst (ms.map V.int)) ∧ ms.length ≤ 1 ∧ ∀ n ∈ ms, 0 ≤ n ∧ n < L) (fun R hR => ?_) (fun v H13 hv => ?_)
            · refine ⟨_, rfl, _, _, rfl, rfl, _, rfl, ite2 (fun c => ?_) (fun _ => ?_)⟩
              · have := of_decide_eq_true c
                refine ⟨(by show 1 ≤ sizeLine; decide), fun m hm => ?_⟩
                obtain ⟨q, q'⟩ := new2 (.lst [V.int 0]) hm
                exact hR _ _ ⟨m, [0], rfl, q, q', by decide, fun n hn => by rw [List.mem_singleton.mp hn]; omega⟩
              · refine ⟨(by show 0 ≤ sizeLine; decide), fun m hm => ?_⟩
                obtain ⟨q, q'⟩ := new2 (.lst []) hm
                exact hR _ _ ⟨m, [], rfl, q, q', by decide, fun n hn => by cases hn⟩
            obtain ⟨m2, ms, rfl, s13, g13, hml, hms⟩ := hv
            refine ⟨q1, m2, _, _, rfl, rfl, s13 _ _ g12, g13, line_of (by rw [rgV_length, List.length_map]; omega), fun m3 hm3 => ?_⟩
            obtain ⟨s14, g14⟩ := new2 (.lst (rgV lo L ++ ms.map V.int)) hm3
            obtain ⟨ns3, hns3, hnn⟩ : ∃ ns3 : List Int, rgV lo L ++ ms.map V.int = ns3.map V.int ∧ ∀ n ∈ ns3, 0 ≤ n ∧ n < L := by
              refine ⟨(List.range (L - lo).toNat).map (fun i => lo + (i : Nat)) ++ ms, ?_, fun n hn => ?_⟩
              · unfold rgV
                rw [List.map_append, List.map_map]
                rfl
              · rcases List.mem_append.mp hn with hn | hn
                · obtain ⟨i, hi, rfl⟩ := List.mem_map.mp hn
                  have := List.mem_range.mp hi
                  omega
                · exact hms n hn
            rw [hns3] at s14 g14 ⊢
            have s24 := s12.trans (s13.trans s14)
            have T14 := T11.ext s24
            generalize upd H13 m3 (.lst (ns3.map V.int)) = H14 at s14 g14 s24 T14 ⊢
            have B14 := B11.trans (Bx.of_same s24)
            have hst14 := hst11.same s24
            refine ⟨m3, rfl, ⟨_, SqL.of g14⟩, for_list (K := K) (a := m3) (xs := ns3.map V.int) (fun i σ H' => ∃ v14, σ = [some (.ref a), some (.ref st), some (.bl g), some (.ref wl), some (.int (0 + (j : Int))), v5, some (.int (c.1 : Int)), v7, some (.ref l), none, some (.ref G), some (.ref th), some (.ref gg), some (.int L), v14] ∧ LamX.ExtN H14 H' ∧ LamX.Tabs (Tl K) H') ⟨_, rfl, fun _ _ h _ => h, T14⟩ (fun _ _ _ _ ⟨_, _, e, _⟩ => SqL.of (ext_lst e g14)) ?_ ?_⟩
            · rintro i x' σ H15 hx' ⟨v14, rfl, e15, T15⟩
              obtain ⟨n, hn, rfl⟩ := ints_get hx'
              obtain ⟨n0, n1⟩ := hnn n (List.mem_of_getElem? hn)
              have B15 := B14.trans (Bx.of_ext e15)
              refine ⟨_, rfl, _, rfl, _, rfl, _, rfl, _, rfl, G, _, _, _, rfl, rfl, SqL.of (kg B15), at_of (by omega) hp, ?_⟩
              exact ⟨c.1, gg, n, p, c.2, rfl, RowsAt.bx (by omega) hst8 B15 hR, GOk.bx hst8 B15 hGo, n0, by omega, hleast n n0 n1, T15, fun H16 e16 T16 => ⟨_, rfl, _, rfl, e15.trans e16, T16⟩⟩
            · rintro σ H15 ⟨v14, rfl, e15, T15⟩
              have B15 := B14.trans (Bx.of_ext e15)
              refine ⟨_, rfl, _, rfl, _, rfl, G, _, _, _, rfl, rfl, SqL.of (kg B15), at_of (by omega) hp, _, rfl, ?_⟩
              refine ⟨c.1, p, some L, c.2, rfl, GOk.bx hst8 B15 hGo, okn L (Int.le_refl _) (by omega), by omega, T15, fun H16 e16 T16 => ⟨_, rfl, ?_⟩⟩
              have B16 := B15.trans (Bx.of_ext e16)
              refine ⟨_, rfl, _, rfl, _, rfl, G, _, _, _, rfl, rfl, SqL.of (kg B16), at_of (by omega) hp, ?_⟩
              refine ⟨c.1, p, none, c.2, rfl, GOk.bx hst8 B16 hGo, (fun n e => by cases e), by omega, T16, fun H17 e17 T17 => ⟨_, rfl, ?_⟩⟩
              have B17 := B16.trans (Bx.of_ext e17)
              refine ⟨_, rfl, _, rfl, G, _, _, _, rfl, rfl, SqL.of (kg B17), at_of (by omega) hp, ?_⟩
              refine ⟨c.1, p, c.2, rfl, GOk.bx hst8 B17 hGo, T17, fun H18 e18 T18 => ⟨_, rfl, ?_⟩⟩
              exact ⟨_, _, _, _, _, _, rfl, b8.trans (B17.trans (Bx.of_ext e18)), Stk.ext hst14 (e15.trans (e16.trans (e17.trans e18))), T18⟩
        · rintro σ H8 ⟨v4, v6, v8, v12, v13, v14, rfl, b8, hst8, T8⟩
          refine ⟨_, rfl, by decide, by decide, for_upto (lo := 0) (L := 2) rfl (fun j σ H' => ∃ v4 v6 v8 v12 v13, σ = [some (.ref a), some (.ref st), some (.bl g), some (.ref wl), v4, v5, v6, v7, v8, none, some (.ref G), some (.ref th), v12, v13, v14] ∧ Bx th H7 H' ∧ Stk H' th) ⟨_, _, _, _, _, rfl, b8, hst8⟩ ?_ (fun σ H' _ => k H')⟩
          rintro j σ H9 hj ⟨v4, v6, v8, v12, v13, rfl, b9, hst9⟩
          obtain ⟨t, l, gg, p, xs, c, hx, hp, ht, hl', hP, hR, hGo, hgd⟩ := look j H9 hj b9
          obtain ⟨c1, c2, c3, c4⟩ := hgd
          refine ⟨_, rfl, _, rfl, wl, _, _, _, rfl, rfl, SqL.of (b9.lst nwl hw7), at_of (by omega) hx, ⟨t, _, rfl, SqT.of ht, rfl, _, _, rfl, _, _, rfl, _, _, rfl, rfl, ?_⟩⟩
          refine ⟨_, rfl, _, rfl, c.1, gg, gM c.2, rfl, hR, c2, (fun x y => ⟨gM_nn _ _ _, by have := gM_le c.2 x y; omega⟩), fun L L0 L1 hgood hleast => ?_⟩
          have ok : DOk (gM c.2) c.1 (some L) := fun m e => by
            cases e
            exact ⟨L0, by omega, hgood⟩
          have hg9 := b9.lst nG hg7
          refine ⟨_, rfl, _, rfl, _, rfl, _, rfl, _, rfl, _, rfl, G, _, _, _, rfl, rfl, SqL.of hg9, at_of (by omega) hp, ?_⟩
          refine ⟨th, c.1, gg, c.2, some L, p, rfl, hR, hGo, ok, c1, hst9, fun H10 b10 hst10 => ⟨_, rfl, ?_⟩⟩
          have B10 : Bx th H9 H10 := Bx.of_but b10
          have hGo10 := GOk.bx hst9 B10 hGo
          obtain ⟨dx, lg, xg, i1, i2, i3⟩ := id hGo10.1
          have nl : l ≠ th := fun w => by
            obtain ⟨q1, q2, q3, q4⟩ := hst9
            rw [w, q4] at hl'
            cases hl'
            exact no_stk hP
          refine ⟨_, rfl, _, rfl, G, _, _, _, rfl, rfl, SqL.of (B10.lst nG hg9), at_of (by omega) hp, p, dx, _, rfl, i1, gf_no (by decide +kernel) (by decide +kernel), p, c.1, c.2, rfl, hGo10.1, fun m ys H11 hm s11 hM hMp => ?_⟩
          have hl11 := s11 _ _ (B10.lst nl hl')
          have hP11 := Paired.mapP hP fun _ _ z => (z.bx hst9 B10).same s11
          refine ⟨_, rfl, _, _, rfl, mt_pairs (by omega) hM hl11 hMp hP11, fun H12 s12 => ⟨_, rfl, ?_⟩⟩
          exact ⟨_, _, _, _, _, rfl, b9.trans (B10.trans (Bx.of_same (s11.trans s12))), hst10.same (s11.trans s12)⟩
end
end K05
end
section
set_option maxRecDepth 100000
set_option maxHeartbeats 0
namespace K05
open PySem PySem.Spec PyProof.Rows L2
theorem law_at {w : World} {h : Heap} {mg : Str → Option Value} {fa : Addr} (Y : hk.says w h) (G : h.Ns mainGlobals mg) (hmg : mg ("law" : Str) = some (.ref fa)) :
    ∃ K : PySem.W.Frag, K.In h ∧ LamX.LawAtG PySem.Challenge.rw_seenenough_k05_dues_and_catches w K 15 63 "script" mg fa h := by
  obtain ⟨K, KX, c⟩ := Y
  have T : Txt w K mg := ⟨h, KX, G, c⟩
  obtain ⟨f, fd, F, g⟩ := f_law T
  have e := hmg.symm.trans g
  cases e
  have B := F.bindsA (ps := ["script"]) (fun _ _ _ _ _ _ us hl => match us, hl with | [_], _ => rfl)
  refine ⟨K, KX, fd, tf.map (He.cT K), spLaw K, fun p hp => ?_, fun p hp => ?_, fun p hp => ?_, fun s u => B s [u] rfl, fun H a ns hl hH hS => ⟨a, ns, rfl, hS, hl, fun p hp => ?_, fun _ => rfl⟩, fun base _ _ TB => fn_law T (fun p hp => TB _ (List.mem_map.mpr ⟨p, hp, rfl⟩)) F⟩
  · obtain ⟨d, hd, rfl⟩ := List.mem_map.mp hp
    exact c.empty d hd
  · obtain ⟨d, hd, rfl⟩ := List.mem_map.mp hp
    exact c.out d hd
  · obtain ⟨d, hd, rfl⟩ := List.mem_map.mp hp
    exact PySem.W.codeHd_of_K KX (c.hd d hd)
  · obtain ⟨d, hd, rfl⟩ := List.mem_map.mp hp
    exact LamX.TabS.nil (hH _ (List.mem_map.mpr ⟨d, hd, rfl⟩))
end K05
open PySem PySem.W PySem.Calls PyProof.Rows
theorem PySem.Challenge.cw_seenenough_k05_dues_and_catches_holds : PySem.Challenge.rw_seenenough_k05_dues_and_catches.Holds := by
  w_on; o_law
  refine HandSHeadRun.head_any (r := OpenLaw.row PySem.Challenge.rw_seenenough_k05_dues_and_catches) (q := view (OpenLaw.row PySem.Challenge.rw_seenenough_k05_dues_and_catches).prog [53]) (H := K05.hk) (ob := K05.ob) (M := 20000) (loose := K05.loose1 ++ K05.loose2) (d := HandSHeadRun.topDef (OpenLaw.row PySem.Challenge.rw_seenenough_k05_dues_and_catches).prog 53) (kwd := []) K05.ob_eq
    (by kernel_rfl) (fun s => by kernel_rfl) K05.run (by kernel_rfl) (by kernel_rfl) (by kernel_rfl) (by rfl) (by first | assumption | decide +kernel) (by decide +kernel) ⟨rfl, rfl, rfl, rfl, rfl, by decide +kernel⟩ ?hw ?hc
  case hw => w_witness2
  case hc =>
    refine LamX.walk_ofG (l := PySem.Challenge.rw_seenenough_k05_dues_and_catches) (n := 63) (k := 15) (x := "script") rfl (by decide) (by kernel_rfl) ⟨by decide, by decide, by decide⟩ rfl ?F
    intro w mg fa h Y G hmg0
    have hmg : mg ("law" : PySem.Str) = some (.ref fa) := by
      have e : (HandSHeadRun.topDef (OpenLaw.row PySem.Challenge.rw_seenenough_k05_dues_and_catches).prog 53).name = ("law" : PySem.Str) := by kernel_rfl
      rw [← e]
      exact hmg0
    exact K05.law_at Y G hmg
end
