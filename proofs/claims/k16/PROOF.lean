import PyProof.Rows.All
import Wide.All
import OpenK.AllK
import Wide.FinOn
import KE.GoesEnumKw
import KE.KStateDown
import HandS.ForMost
import HandS.Exc
import HandS.ExcInit
import HandS.ExcIs
import HandS.ExcField
import HandS.TryOnly
import HandS.TryMany
import HandS.Lambda
import HandS.HotCalls
import HandS.IsInst
import HandS.SortKw
import HandS.WordsExc
import HandS.Wide
import HandS.Defaults
import HandS.HeadHook4
import HandS.HeadWalk
import HandS.RaiseMore
import HandS.ClsMeth
import KE.KExcIs
import HandS.Head0
import HandS.Head1
import HandS.Head2
import HandS.EndTab
import HandS.Steps
import HandS.Conv
import PySem.Challenge.RW_seenenough_k16_fewest_visits_and_served
set_option Elab.async false
set_option linter.all false
section
set_option maxRecDepth 100000
set_option maxHeartbeats 4000000
namespace L2
open PySem PySem.Spec PyProof.Rows
/-! ### x[i] op= e over a list -/
theorem get_list {X : Cx} : PGet X (rIxL X.K) := by
  intro pins s σ H o i ov iv Q I rx ry h
  obtain ⟨p, xs, k, z, rfl, rfl, hq, he, q⟩ := h
  cases rx
  obtain ⟨t, rfl⟩ := ry
  obtain ⟨its, r, pl, hz⟩ := I.list hq
  obtain ⟨j, h1, h2, h3, h4, h5⟩ := atI_get he
  obtain ⟨w, ew, rw'⟩ := r.get h2
  have hl := r.length
  have hn := line63
  have fin : EP X pins σ Q w s := ⟨z, H, I, rw', q⟩
  by_cases h0 : 0 ≤ k
  · have hj : k.toNat = j := by
      rw [seqIndex_of h0 h5] at h1
      exact Option.some.inj h1
    exact wpAny_getItem_list pl.isList h0 (by omega) (by rw [hj]; simpa using ew) fin
  · have hj : (k + (its.toArray.size : Int)).toNat = j := by
      rw [seqIndex_neg (by omega) h4] at h1
      rw [List.size_toArray, ← hl]
      exact Option.some.inj h1
    exact wpAny_getItem_list_neg pl.isList (by omega) (by rw [List.size_toArray] <;> omega) (by omega) (by rw [hj]; simpa using ew) fin
/-! ### a, b = a list or a tuple -/
def gSeq (K : PySem.W.Frag) (n : Nat) (t : TGs) : TG := fun v σ H Q => gTup K n t v σ H Q ∨ gLst K n t v σ H Q
theorem pg_seq {X : Cx} {pos : Pos} {es : List Expr} {k : Nat} {t : TGs} {n : Nat} (hc : X.calm = true) (h : PGs X es t)
    (hn : (assignEach es X.env).length = n := by rfl) (hst : (assignEach es X.env).findIdx? (·.1) = none := by rfl) : PG X (.Tuple es k pos) (gSeq X.K n t) := by
  refine ⟨fun pins s σ H v u Q I r hw => ?_⟩
  rcases hw with hw | hw
  · exact (pg_tup hc h hn hst).run pins s σ H v u Q I r hw
  · exact (pg_lst hc h hn hst).run pins s σ H v u Q I r hw
/-! ### enumerate(list, start=k) -/
def IteS (K : PySem.W.Frag) (a : Addr) (k : Int) : It :=
  ⟨fun i H => ∃ (xs : List V) (x : V), SqL K H a xs ∧ xs[i]? = some x, fun i H v H' => ∃ T x, v = .ref T ∧ H T = none ∧ H' = upd H T (.tup [.int (k + (i : Nat)), x]) ∧ ∀ xs, SqL K H a xs → xs[i]? = some x, fun i H => ∃ xs : List V, SqL K H a xs ∧ xs.length ≤ i⟩
theorem turn_enumS {P : Program} {w : World} {K : PySem.W.Frag} {elts : List Expr} {kk : Nat} {tpos : Pos} (a e it : Addr) (k : Int) :
    Turn P w K (.Tuple elts kk tpos) (IteS K a k) [e, it] e (fun i h => (∃ old, IsEnum h e it (k + ((i : Nat) : Int)) old) ∧ h.IsListIter it a i ∧ e ≠ it) where
  mem := by simp
  obj := fun i h st b hb => by
    obtain ⟨⟨old, he⟩, ⟨o, ho, hc, hd⟩, _⟩ := st
    have e' : b = e ∨ b = it := by simpa using hb
    rcases e' with z | z
    · rw [z]; exact ⟨_, he, fun v q => nomatch q⟩
    · rw [z]; exact ⟨o, ho, fun v q => by rw [hd] at q; cases q⟩
  keep := fun i h h' st k => let ⟨⟨old, he⟩, hi, hne⟩ := st; ⟨⟨old, k e (by simp) _ he⟩, hi.at fun o q => k it (by simp) o q, hne⟩
  item := by
    intro X hP hw hK hc i pins s σ H E I hf st hg
    subst hP hw hK
    obtain ⟨⟨old, he⟩, hit, hne⟩ := st
    obtain ⟨xs, x, hq, hx⟩ := hg
    obtain ⟨its, rv, p, hz⟩ := I.list hq
    obtain ⟨u, hu, ru⟩ := rv.get hx
    have hel : e < s.heap.objs.size := Heap.lt_size he
    have hil : it < s.heap.objs.size := by obtain ⟨_, q, _⟩ := hit; exact Heap.lt_size q
    have hal : a ≠ it := fun z => by
      obtain ⟨o1, e1, c1, _⟩ := id hit
      obtain ⟨o2, e2, c2, _⟩ := id p.isList
      rw [z, e1] at e2
      have eo := Option.some.inj e2
      rw [eo, c2] at c1
      exact absurd (Value.type.inj c1) (by decide)
    have hea : e ∉ [it, a] := fun z => by
      rcases List.mem_cons.mp z with z | z
      · exact hne z
      · have z' := List.mem_singleton.mp z
        obtain ⟨o2, e2, c2, _⟩ := id p.isList
        have he' : s.heap.get? e = some _ := he
        rw [z', e2] at he'
        rw [Option.some.inj he'] at c2
        exact absurd (Value.type.inj c2) (by decide)
    refine wpAny_pyNext_enum_itemC (Draws.list (A := X.A.in1) (I.ok.hd hc) it a hal its.toArray) he ⟨hit, p.isList⟩ (by have := (List.getElem?_eq_some_iff.mp hu).1; simpa using this) hne hea fun u' h' tk hP ho hst' hT hsz hk => ?_
    obtain rfl : u' = u := by
      have hP' : its.toArray[i]? = some u' := hP
      rw [List.getElem?_toArray, hu] at hP'
      exact (Option.some.inj hP').symm
    obtain ⟨hit', _⟩ := hst'
    refine ⟨_, rfl, wpAny_letOwnedTupleGo_enum (s := { s with heap := h', toks := tk + 1 }) ho fun h'' he' sb => ?_⟩
    have hT2 : h''.get? s.heap.objs.size = some { cls := .type "tuple", data := .seq #[.int (k + i) tk, u'] } := (sb.2 _ (Nat.ne_of_gt hel)).trans hT
    have new : ObjOk X.prog X.w (upd H s.heap.objs.size (.tup [.int (k + (i : Nat)), x])) h'' s.heap.objs.size (.tup [.int (k + (i : Nat)), x]) :=
      ⟨by show 2 ≤ sizeLine; decide, [.int (k + i) tk, u'], .cons ⟨_, rfl⟩ (.cons ru .nil), ⟨_, hT2, rfl, _, rfl⟩⟩
    have I1 : Inv X pins σ (upd H s.heap.objs.size (.tup [.int (k + (i : Nat)), x])) { s with heap := h'', toks := tk + 1 } :=
      I.turnedNew (ch := [e, it]) (fun b ob hb q => (sb.2 b (fun z => hb (by simp [z]))).trans (hk b ob (fun z => hb (by simp [z])) (fun z => hb (by simp [z])) q)) hf (Nat.le_refl _) new
    refine ⟨.ref s.heap.objs.size, _, I1, rfl, ⟨_, x, rfl, I.hok.fresh (Nat.le_refl _), rfl, fun ys hy => by rw [I.list_inj hy hq]; exact hx⟩, ⟨⟨u', ?_⟩, hit'.at fun o q => (sb.2 it (Ne.symm hne)).trans q, hne⟩, fun b hb => ?_⟩
    · have e1 : k + ((i + 1 : Nat) : Int) = (k + (i : Int)) + 1 := by omega
      rw [e1]; exact he'
    · have hb' : b < s.heap.objs.size := by
        have e' : b = e ∨ b = it := by simpa using hb
        rcases e' with z | z
        · rw [z]; exact hel
        · rw [z]; exact hil
      rw [upd_ne (Nat.ne_of_lt hb')]
      exact (hf b hb).1
  done := by
    intro X hP hw hK hc i pins s σ H E I hf st hg
    subst hP hw hK
    obtain ⟨⟨old, he⟩, hit, hne⟩ := st
    obtain ⟨xs, hq, hx⟩ := hg
    obtain ⟨its, rv, p, hz⟩ := I.list hq
    obtain ⟨f0, f1, f2, f3, f4, f5⟩ := hf it (by simp)
    have hl := rv.length
    have hT : s.TypeIs (.ref e) "enumerate" := ⟨_, he, rfl⟩
    unfold pyNext
    refine wpAny_bind (wpAny_attempt (wpAny_callSpecial?_slot (name := Str.ofString "__next__") hT F.slot_enumerate_next
      (wpAny_call_entry F.slot_enumerate_next hT F.entry_enumerate_next ?_ (F.args_enumerate_next_1 _))))
    show wpAny _ _ (field (.ref e) 2 >>= _) _ _ _
    refine wpAny_bind (wpAny_field he rfl (x := .ref it) rfl ?_)
    refine wpAny_bind (wpAny_nextOf_list_end (show X.A.in1.handled = none from I.ok.hd hc) hit p.isList (by simp; omega) fun h' x eb hx' => ?_)
    obtain ⟨o, ho, hc'⟩ := hx'
    refine wpAny_bind (wpAny_isInstance (T := "StopIteration") (b := true) ⟨o, ho, hc'⟩ isSubtype_stop ?_)
    exact wpAny_pure ⟨rfl, I.turned (t' := s.toks) (fun b o hb q => eb b o hb q) f0 f1 f3 f4 f5⟩
  self := fun A i s Q E st h => let ⟨⟨_, he⟩, _⟩ := st; wpAny_pyIter_enum he h
def iEnumS (K : PySem.W.Frag) (ta tk : TA) : TI := fun σ H R => ta σ H fun vs H1 => tk σ H1 fun zs H2 => ∃ a xs k, vs = [.ref a] ∧ zs = [.int k] ∧ -(2 ^ 63) ≤ k ∧ k < 2 ^ 63 ∧ SqL K H2 a xs ∧ R (IteS K a k) H2
theorem callWith_typeK {M : Model} {A : Around} {E : Value → Shared → Prop} {s : Shared} {env : Env} {pos : Pos} {T : String} {e : Expr} {rest : List Expr} {kws : List Keyword} {Q : Value → Shared → Prop}
    (h : wpAny M A (spliced (backTo pos (starEach (e :: rest) env))) (fun vs s₁ => wpAny M A (evalAll ((backToKw pos (keywordEach kws env)).map (·.2)))
      (fun kvs s₂ => wpAny M A (call (.type T) vs (((backToKw pos (keywordEach kws env)).filterMap (·.1)).zip kvs)) Q E s₂) E s₁) E s)
    (he : backTo pos (starEach (e :: rest) env) = (false, eval e env) :: backTo pos (starEach rest env) := by rfl)
    (hplain : (backTo pos (starEach (e :: rest) env)).any (·.1) = false := by rfl)
    (hall : (backToKw pos (keywordEach kws env)).all (·.1.isSome) = true := by rfl)
    (hkw : (backToKw pos (keywordEach kws env)).any (·.1.isNone) = false := by rfl) :
    wpAny M A (callWith pos (.type T) [] (backTo pos (starEach (e :: rest) env)) (backToKw pos (keywordEach kws env))) Q E s := by
  have h2 : wpAny M A (evalArgs (.type T) true (backTo pos (starEach (e :: rest) env)) (backToKw pos (keywordEach kws env))) (fun a s₁ => wpAny M A (call (.type T) ([] ++ a.pos) a.kw) Q E s₁) E s := by
    rw [he] at h ⊢
    exact PyProof.Rows.evalArgs_kwB hall h
  unfold callWith
  refine wpAny_bind (wpAny_holding (wpAny_mono h2 (fun a s₁ h₁ => wpAny_bind (wpAny_standAt ?_)) fun _ _ x => x))
  simp only [hplain, hkw, Bool.or_false]
  refine wpAny_bind (wpAny_pure ?_)
  exact wpAny_bind (wpAny_mono h₁ (fun r s₂ hr => wpAny_bind (wpAny_holding (wpAny_point (wpAny_pure hr)))) fun _ _ x => x)
theorem pi_enumS {X : Cx} {e e2 : Expr} {ta tk : TA} {p pos tpos kpos : Pos} {elts : List Expr} {kk : Nat} (hg : Gl X "enumerate") (hm : X.mg "enumerate" = none) (ha : PA X [e] ta) (hk : PK X [⟨some (Str.ofString "start"), e2, kpos⟩] tk) (hs : starEach [e] X.env = [(false, eval e X.env)] := by rfl) :
    PI X (.Tuple elts kk tpos) (.Call (.Name "enumerate" p) [e] [⟨some (Str.ofString "start"), e2, kpos⟩] pos) (iEnumS X.K ta tk) := by
  refine ⟨fun pins s σ H R I h => ?_⟩
  refine wpAny_Call_Name_kw (ld_blt I hg hm boot_enumerate ?_)
  refine callWith_typeK (thn (ha.run pos pins s σ H _ I h) fun us s1 ⟨vs, H1, I1, r1, q1⟩ => thn (hk.run pos pins s1 σ H1 _ I1 q1) fun ws s2 ⟨zs, H2, I2, r2, q2⟩ => ?_) (by rw [hs]; rfl) (by rw [hs]; rfl)
  obtain ⟨a, xs, k, rfl, rfl, hk0, hk1, hq, q⟩ := q2
  obtain rfl := Vals.ref1 r1
  obtain ⟨w1, rfl, t, rfl⟩ := vals1 r2
  obtain ⟨its, rv, p', hz⟩ := I2.list hq
  show wpAny _ _ (call (.type "enumerate") [.ref a] [(Str.ofString "start", .int k t)]) _ _ _
  refine enum_begins_start (begins_list a its.toArray) p'.isList hk0 hk1 fun h' he hit hsz hkp => wpAny_pyIter_enum he ?_
  have I3 : Inv X pins σ H2 { s2 with heap := h' } := I2.kept (t' := s2.toks) hkp
  have he2 : IsEnum h' (s2.heap.objs.size + 1) s2.heap.objs.size (k + ((0 : Nat) : Int)) .none := by
    have : k + ((0 : Nat) : Int) = k := by omega
    rw [this]; exact he
  refine ⟨s2.heap.objs.size + 1, [s2.heap.objs.size + 1, s2.heap.objs.size], _, _, H2, rfl, I3, turn_enumS a (s2.heap.objs.size + 1) s2.heap.objs.size k, ⟨⟨.none, he2⟩, ⟨_, hit, rfl, rfl⟩, Nat.succ_ne_self _⟩, fun b hb => ?_, q⟩
  have e' : b = s2.heap.objs.size + 1 ∨ b = s2.heap.objs.size := by simpa using hb
  have hle : s2.heap.objs.size ≤ b := by
    rcases e' with z | z
    · rw [z]; exact Nat.le_add_right _ _
    · rw [z]; exact Nat.le_refl _
  exact I2.fpOk hle (I2.hok.fresh hle)
end L2
end
section
set_option maxRecDepth 100000
set_option maxHeartbeats 4000000
namespace L2
open PySem PySem.Spec PyProof.Rows
/-! ### Base.__init__(self, ..), Base an own class that has no __init__ of its own and descends from ValueError -/
structure SeTxt (K : PySem.W.Frag) (CS : Addr) : Prop where
  rd : PySem.W.readsIn K CS (.type "type") = true
  ga : PySem.W.specialIn K (.ref CS) "__getattribute__" = some (some (.builtin "type.__getattribute__"))
  at_ : PySem.W.findCls K (.ref CS) (.type "type") "__init__" = some (.val (.builtin "ValueError.__init__"))
def seB (K : PySem.W.Frag) (CS : Addr) : Bool := PySem.W.readsIn K CS (.type "type") && (decide (PySem.W.specialIn K (.ref CS) "__getattribute__" = some (some (.builtin "type.__getattribute__"))) && (match PySem.W.findCls K (.ref CS) (.type "type") "__init__" with
  | some (.val v) => decide (v = .builtin "ValueError.__init__")
  | _ => false))
theorem seB_ok {K : PySem.W.Frag} {CS : Addr} (h : seB K CS = true) : SeTxt K CS := by
  obtain ⟨h1, h2⟩ := Bool.and_eq_true_iff.mp h
  obtain ⟨h3, h4⟩ := Bool.and_eq_true_iff.mp h2
  refine ⟨h1, of_decide_eq_true h3, ?_⟩
  split at h4
  · rename_i v e
    rw [e, of_decide_eq_true h4]
  · cases h4
section
variable {X : Cx} {e : Expr} {es : List Expr} {ta : TA} {x : Str} {p1 p2 pos : Pos} {CS : Addr}
theorem pe_seinit {pl : Sem Bool} (T : SeTxt X.K CS) (hg : Gl X x) (hm : X.mg x = some (.ref CS)) (ha : PA X (e :: es) ta)
    (hdb : (x == ("__debug__" : Str)) = false := by decide)
    (hc : eval (.Call (.Attribute (.Name x p1) "__init__" p2) (e :: es) [] pos) X.env = (do
      let ov ← eval (.Name x p1) X.env
      standAt p2.atName
      let (f, first) ← holding [ov] (getMethod ov "__init__" pl)
      callWith pos f first (backTo pos (starEach (e :: es) X.env)) (backToKw pos (keywordEach [] X.env))) := by rfl)
    (he : starEach (e :: es) X.env = (false, eval e X.env) :: starEach es X.env := by rfl) (hpl : (backTo pos (starEach es X.env)).any (·.1) = false := by rfl) :
    PE X (.Call (.Attribute (.Name x p1) "__init__" p2) (e :: es) [] pos) (tVeI X.K ta) := by
  refine ⟨fun pins s σ H Q I h => ?_⟩
  refine PySem.W.methodCall_KW (ld_glob I hg hm ?_ hdb) hc
  obtain ⟨m, fr⟩ := I.fr
  refine PySem.W.method_of_cls fr I.ok.mod.kin T.ga ?_
  refine PySem.W.cls_value I.kIn T.rd T.at_ (by decide +kernel) ?_
  show wpAny _ _ (callWith pos (Value.builtin "ValueError.__init__") [] (backTo pos (starEach (e :: es) X.env)) []) _ _ _
  refine PyProof.Rows.callWith_method1 (thn (ha.run pos pins _ σ H _ (I.tok _) h) fun us s1 ⟨vs, H1, I1, r1, a, C, ws, ev, hl, T, ea, q⟩ => ?_) he hpl
  subst ev
  cases r1 with
  | @cons _ u0 _ ur ra rw' =>
    obtain rfl : u0 = Value.ref a := ra
    have hlen : ur.length ≤ sizeLine := by
      rw [← Paired.length rw', sizeLine_eq]
      omega
    exact oinit_ok T I1 ea hlen fun s' J => ⟨.non, H1, J, rfl, q⟩
end
end L2
end
section
set_option maxRecDepth 100000
set_option maxHeartbeats 4000000
namespace L2
open PySem PySem.Spec PyProof.Rows
/-! ### the exception that a context bears: its fields, its class -/
section
variable {X : Cx} {p : Addr × Obj} {cls : Value} {d : Option Addr} {C D : Addr} {n : Str} {e : Expr} {te : TE} {pos : Pos}
theorem pe_xfG (hp : p ∈ X.pn) (T : XfC X.K C) (hno : PySem.W.findIn X.K (.ref C) n = some none) (hz : Zc cls d p.2) (hf : ∃ vs, p.2.data = .fields vs) (he : PE X e te)
    (hb : attributeBase e n X.env (eval e X.env) = eval e X.env := by rfl) : PE X (.Attribute e n pos) (tXf p.1 cls d C n te) := by
  constructor
  intro pins s σ H Q I h
  refine attr_of hb (thn (he.run pins s σ H _ I h) ?_)
  rintro u s1 ⟨x, H1, I1, rx, rfl, rfl, dd, fs, v, rfl, ea, l, q⟩
  obtain rfl : u = Value.ref p.1 := rx
  have hget := (I1.pin p (List.mem_append_left _ hp)).1
  obtain ⟨vs, hdat⟩ := hf
  have hobj : ObjOk X.prog X.w H1 s1.heap dd (.xd fs) := I1.hok dd _ ea
  obtain ⟨mA, hns, hrel⟩ := hobj
  obtain ⟨od, hod, hlook⟩ := lookIn_ns hns
  obtain ⟨u2, hu2, ru2⟩ := RelO.some_of (v := v) (o := mA n) (by rw [← l]; exact hrel n)
  have at_ : PySem.W.InstAt s1.heap p.1 p.2 C (some od) := ⟨hget, hz.1, by unfold PySem.W.notCls; rw [hdat] <;> rfl, by rw [hz.2]; exact hod⟩
  exact HandSPX.exc_get I1.kIn at_ T.ga T.gg T.exC (PySem.W.findObj_own T.hdC hno rfl (by rw [hlook, hu2])) (handed_of ru2) ⟨v, H1, I1.tok _, ru2, q⟩
/-- isinstance(e, c), e the exception at p, of the class at D, its own dict at d -/
def rIsD (K : PySem.W.Frag) (D a d : Addr) : List V → Hp → VK → Prop := fun xs H Q => ∃ (c : V) (cv : Value) (b : Bool) (fs : List (Str × V)), xs = [.ref a, c] ∧ (∀ u, RelV c u → u = cv) ∧ H d = some (.xd fs) ∧ PySem.W.kitOne K (.ref D) cv = some b ∧ Q (.bl b) H
theorem call_isD {d : Addr} (hp : p ∈ X.pn) (T : ExcC X.K D) (hz : Zc (.ref D) (some d) p.2) (hf : ∃ vs, p.2.data = .fields vs) : CallR X (.builtin "isinstance") (rIsD X.K D p.1 d) := by
  intro pins s σ H xs us Q I r h
  obtain ⟨c, cv, b, fs, rfl, hcv, ed, hkit, q⟩ := h
  obtain ⟨u1, u2, rfl, r1, r2⟩ := vals2 r
  obtain rfl : u1 = Value.ref p.1 := r1
  obtain rfl : u2 = cv := hcv _ r2
  have hget := (I.pin p (List.mem_append_left _ hp)).1
  have hobj : ObjOk X.prog X.w H s.heap d (.xd fs) := I.hok d _ ed
  obtain ⟨mA, hns, hrel⟩ := hobj
  obtain ⟨od, hod, hlook⟩ := lookIn_ns hns
  obtain ⟨vs, hdat⟩ := hf
  have at_ : PySem.W.InstAt s.heap p.1 p.2 D (some od) := ⟨hget, hz.1, by unfold PySem.W.notCls; rw [hdat] <;> rfl, by rw [hz.2]; exact hod⟩
  have hcl : (PySem.W.clsIn X.K D).isSome = true := by
    obtain ⟨cd, hc, _⟩ := PySem.W.any_some T.hd
    rw [hc]; rfl
  exact PySem.W.kia_one (PySem.W.kitx_exc (gt := none) hcl T.hg T.hk T.hs T.ha T.hn T.ht T.hm) I.kIn at_ hkit (fun z => nomatch z) fun tk => ⟨.bl b, H, I.tok tk, rfl, q⟩
end
/-! ### a def that is handed the exception which an except suite holds -/
abbrev SpE := Addr → Value → Option Addr → Sp
structure FnE (P : Program) (w : World) (K : PySem.W.Frag) (mg : Str → Option Value) (base : Heap) (k : Nat) (f : Addr) (fd : FuncData) (ps : List Str) (sp : SpE) : Prop where
  len : ∀ a cls d vs H Q E, sp a cls d vs H Q E → vs.length = ps.length
  run : ∀ (A : Around) (outer : List Env) (s : Shared) (H : Hp) (args : Args) (us : List Value) (vs : List V) (Q : VK) (p : Addr × Obj) (cls : Value) (d : Option Addr), L2H.RoomH k A → Zc cls d p.2 → (∃ vs, p.2.data = .fields vs) → L2H.PinOk outer H s p →
    Env0 P w K mg base A outer s H → BindsTo s fd args (ps.zip us) → Vals vs us → sp p.1 cls d vs H Q E0 → codeAny (model P w) A (.call (.ref f) args) (CR CX0 outer P w H s Q E0) s
theorem fnE_of {P : Program} {w : World} {K : PySem.W.Frag} {mg : Str → Option Value} {base : Heap} {k : Nat} {f : Addr} {name qual : Str} {params : Arguments} {body : List Stmt} {scope : Scope} {dV kV doc pm cdv ct oc : Value} {an od : Option Addr}
    {osl : Array (Option Value)} {N ps : List Str} {sp : SpE} (lk : K.lookup f = some ⟨oc, od, .func (PySem.W.fnOf name qual params body scope dV kV doc pm an cdv ct), osl⟩) (hcd : PySem.W.codeIn K cdv qual = true) (S : FnScope N ps scope)
    (len : ∀ a cls d vs H Q E, sp a cls d vs H Q E → vs.length = ps.length)
    (hbody : ∀ (A : Around) (outer : List Env) (s : Shared) (H : Hp) (vs : List V) (Q : VK) (p : Addr × Obj) (cls : Value) (d : Option Addr), L2H.RoomH k (A.deeper (envOfC qual scope s.heap.objs.size f cdv)) → Zc cls d p.2 → (∃ vs, p.2.data = .fields vs) → sp p.1 cls d vs H Q E0 →
      ∃ t, PSs (L2H.cxH CX0 P w K mg base N qual scope f cdv A outer s H E0 p) body t ∧ t { nx := fun _ H' => Q .non H', rt := Q } (L2.start N vs) H) :
    FnE P w K mg base (k + 1) f (PySem.W.fnOf name qual params body scope dV kV doc pm an cdv ct) ps sp := by
  constructor
  · exact len
  intro A outer s H args us vs Q p cls d hr hz hf hpin e0 hb r hsp
  have hlen := len _ _ _ _ _ _ _ hsp
  have hK : K.In s.heap := e0.mod.kin.keeps fun b o e => (e0.bs b o e).1
  have hLim : s.heap.NoLimit := e0.mod.nolimit.keeps fun b o e => (e0.bs b o e).1
  have hpar : ∀ y ∈ ps.zip us, scope.names.lookup y.1 = some .local ∨ (scope.names.lookup y.1 = some .cell ∧ ((cellsFrom (s.heap.objs.size + 1) scope.names []).lookup y.1).isSome = true) := by
    rintro ⟨n, v⟩ hy
    exact (S.par n (List.of_mem_zip hy).1).imp id fun q => ⟨q, PySem.W.cellsFrom_some _ _ _ (.inl q)⟩
  refine codeAny_call_function hr.depth (hK _ _ lk) rfl S.co S.gen rfl (PySem.W.codeRec_of hK hcd) (hb _ _ _ _ ?_)
  refine wpAny_newFunctionEnv_cells S.kind hpar ?_
  rintro env rfl s1 x
  refine ⟨hLim.keeps x.toInCall.keep, codeAny_func ?_⟩
  obtain ⟨t, ht, hq⟩ := hbody A outer s H vs Q p cls d (hr.deeper _) hz hf hsp
  refine wpAny_mono (ht.run [] s1 (L2.start N vs) H _ (L2H.inv_startH S hpin e0 hlen r x) hq) ?_ fun e s' hs => hs
  intro fl s' hs
  cases fl with
  | ret u =>
    obtain ⟨v, σ', H', J, rv, q⟩ := hs
    exact ⟨v, H', J.os, J.bare, J.base, J.hok, rv, q⟩
  | next =>
    obtain ⟨σ', H', J, q⟩ := hs
    exact ⟨V.non, H', J.os, J.bare, J.base, J.hok, rfl, q⟩
  | brk => exact hs.elim fun _ z => z.elim fun _ z => z.2.elim
  | cont => exact hs.elim fun _ z => z.elim fun _ z => z.2.elim
def tCallE (sp : Sp) (t : TA) : TE := fun σ H Q => t σ H fun vs H1 => sp vs H1 Q E0
theorem pe_callE {X : Cx} {k : Nat} {f : Addr} {fd : FuncData} {ps : List Str} {sp : SpE} {x : Str} {q pos : Pos} {e : Expr} {es : List Expr} {t : TA} {p : Addr × Obj} {cls : Value} {d : Option Addr} (F : FnE X.prog X.w X.K X.mg X.base k f fd ps sp) (hr : L2H.RoomH k X.A)
    (hp : p ∈ X.pn) (hz : Zc cls d p.2) (hf : ∃ vs, p.2.data = .fields vs) (hg : Gl X x) (hm : X.mg x = some (.ref f)) (hk : PySem.W.keepIn X.K (.ref f) = true) (hb : Binds X.K fd ps [])
    (ha : PA X (e :: es) t) (hdb : (x == ("__debug__" : Str)) = false := by decide) (he : starEach (e :: es) X.env = (false, eval e X.env) :: starEach es X.env := by rfl) (hpl : (backTo pos (starEach es X.env)).any (·.1) = false := by rfl) :
    PE X (.Call (.Name x q) (e :: es) [] pos) (tCallE (sp p.1 cls d) t) := by
  constructor
  intro pins s σ H Q I h
  refine wpAny_Call_Name_kw (ld_glob I hg hm ?_ hdb)
  refine PySem.W.callWith_K (h₀ := X.base) I.ok.mod.kin hk (thn (ha.run pos pins s σ H _ I h) ?_) he hpl
  rintro us s1 ⟨vs, H1, I1, r, hsp⟩
  refine ⟨I1.kIn, ?_⟩
  have hlen : us.length = ps.length := by rw [← r.length]; exact F.len _ _ _ _ _ _ _ hsp
  have hbind := hb s1 us I1.kIn (by rw [List.append_nil]; exact hlen)
  rw [List.append_nil] at hbind
  obtain ⟨g1, g2, g3, g4, g5⟩ := I1.pin p (List.mem_append_left _ hp)
  have hpin : L2H.PinOk X.stack H1 s1 p := ⟨g1, g2, fun hm => (List.mem_cons.mp (I1.stkSub p.1 hm)).elim g3 g4, g5⟩
  refine wpAny_call (codeAny_mono (F.run X.A X.stack s1 H1 ⟨us, []⟩ us vs Q p cls d hr hz hf hpin I1.env0 hbind r hsp) ?_)
  intro r s' hq
  cases r with
  | error e => exact False.elim hq
  | ok fl =>
    cases fl with
    | ret u => exact I1.after hq
    | next => exact False.elim hq
    | brk => exact False.elim hq
    | cont => exact False.elim hq
/-! ### a def that asks that no repr is under way -/
structure FnG (P : Program) (w : World) (K : PySem.W.Frag) (mg : Str → Option Value) (base : Heap) (k : Nat) (f : Addr) (fd : FuncData) (ps : List Str) (sp : Sp) : Prop where
  len : ∀ vs H Q E, sp vs H Q E → vs.length = ps.length
  run : ∀ (A : Around) (outer : List Env) (s : Shared) (H : Hp) (args : Args) (us : List Value) (vs : List V) (Q : VK), Room k A → A.guards = some [] → Env0 P w K mg base A outer s H → BindsTo s fd args (ps.zip us) → Vals vs us → sp vs H Q E0 →
    codeAny (model P w) A (.call (.ref f) args) (CR CX0 outer P w H s Q E0) s
theorem fnG_of {P : Program} {w : World} {K : PySem.W.Frag} {mg : Str → Option Value} {base : Heap} {k : Nat} {f : Addr} {name qual : Str} {params : Arguments} {body : List Stmt} {scope : Scope} {dV kV doc pm cdv ct oc : Value} {an od : Option Addr}
    {osl : Array (Option Value)} {N ps : List Str} {sp : Sp} (lk : K.lookup f = some ⟨oc, od, .func (PySem.W.fnOf name qual params body scope dV kV doc pm an cdv ct), osl⟩) (hcd : PySem.W.codeIn K cdv qual = true) (S : FnScope N ps scope)
    (hbs : ∀ (s : Shared) (us : List Value), us.length = ps.length → BindsTo s (PySem.W.fnOf name qual params body scope dV kV doc pm an cdv ct) ⟨us, []⟩ (ps.zip us))
    (len : ∀ vs H Q E, sp vs H Q E → vs.length = ps.length)
    (hbody : ∀ (A : Around) (outer : List Env) (s : Shared) (H : Hp) (vs : List V) (Q : VK), Room k (A.deeper (envOfC qual scope s.heap.objs.size f cdv)) → (A.deeper (envOfC qual scope s.heap.objs.size f cdv)).guards = some [] → sp vs H Q E0 →
      ∃ t, PSs (cxOf CX0 P w K mg base N qual scope f cdv A outer s H E0).nox body t ∧ t { nx := fun _ H' => Q .non H', rt := Q } (L2.start N vs) H) :
    FnG P w K mg base (k + 1) f (PySem.W.fnOf name qual params body scope dV kV doc pm an cdv ct) ps sp := by
  constructor
  · exact len
  intro A outer s H args us vs Q hr hgd e0 hb r hsp
  refine LamX.run_ofS lk hcd S hr e0 hb r (len _ _ _ _ hsp) fun hr' => ?_
  obtain ⟨t, h, q⟩ := hbody A outer s H vs Q hr' (by first | exact hgd | (show A.guards = some []; exact hgd)) hsp
  exact ⟨t, h.nox, q⟩
theorem pe_callG {X : Cx} {k : Nat} {f : Addr} {fd : FuncData} {ps : List Str} {sp : Sp} {x : Str} {q pos : Pos} {e : Expr} {es : List Expr} {t : TA} (F : FnG X.prog X.w X.K X.mg X.base k f fd ps sp) (hr : Room k X.A) (hgd : X.A.guards = some [])
    (hg : Gl X x) (hm : X.mg x = some (.ref f)) (hk : PySem.W.keepIn X.K (.ref f) = true) (hb : Binds X.K fd ps [])
    (ha : PA X (e :: es) t) (hdb : (x == ("__debug__" : Str)) = false := by decide) (he : starEach (e :: es) X.env = (false, eval e X.env) :: starEach es X.env := by rfl) (hpl : (backTo pos (starEach es X.env)).any (·.1) = false := by rfl) :
    PE X (.Call (.Name x q) (e :: es) [] pos) (tCallE sp t) := by
  constructor
  intro pins s σ H Q I h
  refine wpAny_Call_Name_kw (ld_glob I hg hm ?_ hdb)
  refine PySem.W.callWith_K (h₀ := X.base) I.ok.mod.kin hk (thn (ha.run pos pins s σ H _ I h) ?_) he hpl
  rintro us s1 ⟨vs, H1, I1, r, hsp⟩
  refine ⟨I1.kIn, ?_⟩
  have hlen : us.length = ps.length := by rw [← r.length]; exact F.len _ _ _ _ hsp
  have hbind := hb s1 us I1.kIn (by rw [List.append_nil]; exact hlen)
  rw [List.append_nil] at hbind
  refine wpAny_call (codeAny_mono (F.run X.A X.stack s1 H1 ⟨us, []⟩ us vs Q hr hgd I1.env0 hbind r hsp) ?_)
  intro r s' hq
  cases r with
  | error e => exact False.elim hq
  | ok fl =>
    cases fl with
    | ret u => exact I1.after hq
    | next => exact False.elim hq
    | brk => exact False.elim hq
    | cont => exact False.elim hq
/-! ### repr of a list or a tuple of plain data -/
def rReprD (K : PySem.W.Frag) : List V → Hp → VK → Prop := fun xs H Q => ∃ (a : Addr) (d : PyData), xs = [.ref a] ∧ Dp K H (.ref a) d ∧ d.showable = true ∧ d.hasDict = false ∧ d.depth ≤ 8 ∧ d.shown.length ≤ sizeLine ∧ Q (.str d.shown) H
theorem call_reprD {X : Cx} {k : Nat} (hr : Room k X.A) (hgd : X.A.guards = some []) : CallR X (.builtin "repr") (rReprD X.K) := by
  intro pins s σ H xs us Q I r h
  obtain ⟨a, d, rfl, hd, h1, h2, h3, h4, q⟩ := h
  obtain rfl := Vals.ref1 r
  obtain ⟨as, rd⟩ := Dp.reads I d (.ref a) (.ref a) hd rfl
  have hu := hr.units
  refine repr_of_reads' rd h1 (fun z => by rw [h2] at z; cases z) hgd (by omega) (fun b o e => e) (fun h' u tk hk => ?_) h4
  exact ⟨.str d.shown, H, I.kept hk, ⟨u, rfl⟩, q⟩
end L2
end
section
set_option maxRecDepth 100000
set_option maxHeartbeats 4000000
namespace LamX
open PySem PySem.Spec PyProof.Rows L2
/-! ### x(lambda: body, e2): the def takes the lambda and one value -/
/-- the callee's body for any reading tl of the lambda; call(): its first parameter -/
def Gives2 (X : Cx) (Ng : List Str) (x : Str) (sg : Scope) (g : Addr) (cdg : Value) (bg : List Stmt) (a : Str) (q : Str) (TT : (XK → Hp → VK → Prop) → (Hp → Prop) → V → Hp → VK → Prop) : Prop :=
  ∀ (f c' : Addr) (s : Shared) (H : Hp) (Q : VK) (v2 : V) (tl : XK → Hp → VK → Prop),
    (∀ (W : WX) (pn : List (Addr × Obj)) (xe : Value → Shared → Prop) (E : XK) (p1 p2 : Pos), Takes ((cxOf C8.CX0 X.prog X.w X.K X.mg X.base Ng x sg g cdg X.A X.stack s H C8.E0).tr pn xe) W → (∀ cls d σ' H', E cls d H' → W cls d σ' H') →
      PE ((cxOf C8.CX0 X.prog X.w X.K X.mg X.base Ng x sg g cdg X.A X.stack s H C8.E0).tr pn xe) (.Call (.Name a p1) [] [] p2) (fun σZ HZ Q => σZ[0]? = some (some (.ref f)) ∧ HZ c' = some (CodeO c' q) ∧ tl E HZ Q)) →
    H c' = some (CodeO c' q) → TT tl (fun H' => H' c' = some (CodeO c' q)) v2 H Q →
    ∃ t, PSs (cxOf C8.CX0 X.prog X.w X.K X.mg X.base Ng x sg g cdg X.A X.stack s H C8.E0).nox bg t ∧ t { nx := fun _ H' => Q .non H', rt := Q } (L2.start Ng [.ref f, v2]) H
def tLam2 (T : List (Addr × Str)) (q : Str) (TT : (XK → Hp → VK → Prop) → (Hp → Prop) → V → Hp → VK → Prop) (t : XK → TE) (te : TE) : TE := fun σ H Q => Tabs T H ∧ ∀ H1 c', ExtN H H1 → Tabs T H1 → H1 c' = some (CodeO c' q) →
  te σ H1 fun x H2 => ∃ v2, [x] = [v2] ∧ H2 c' = some (CodeO c' q) ∧ TT (fun E H' Q' => t E σ H' Q') (fun H' => H' c' = some (CodeO c' q)) v2 H2 Q
end LamX
end
section
set_option maxRecDepth 100000
set_option maxHeartbeats 4000000
/-! ### checks of exception classes in the written part -/
namespace L2
open PySem PySem.Spec PyProof.Rows
/-- the class at C descends from ValueError by own classes, its __init__ is the def at f -/
def oexB (K : PySem.W.Frag) (C : Addr) : Bool := (match K.lookup C with
  | some ⟨.type t, _, .cls cd, sl⟩ => decide (t = "type") && (match cd.mro, sl.toList with
    | .ref C' :: bm, [_, _, _, _, some (.builtin n), _] => decide (C' = C) && (decide (n = "ValueError.__new__") && (!cd.hasDel && (cd.hasDict && PySem.HandSPX.refsVE bm)))
    | _, _ => false)
  | _ => false) && (decide (PySem.W.findIn K (.ref C) "__setattr__" = some (some (.builtin "object.__setattr__"))) && (decide (PySem.W.subIn K (.ref C) (.type "BaseException") = some true) && (decide (PySem.W.typeIn K (.ref C) = some (.type "type")) && PySem.W.keepIn K (.ref C))))
theorem and2 {a b : Bool} (h : (a && b) = true) : a = true ∧ b = true := Bool.and_eq_true_iff.mp h
theorem oexB_ok {K : PySem.W.Frag} {C : Addr} (h : oexB K C = true) : OexC K C := by
  obtain ⟨h1, h⟩ := and2 h
  obtain ⟨h2, h⟩ := and2 h
  obtain ⟨h3, h⟩ := and2 h
  obtain ⟨h4, h5⟩ := and2 h
  refine ⟨?_, of_decide_eq_true h2, of_decide_eq_true h3, of_decide_eq_true h4, h5⟩
  split at h1
  · rename_i t dd cd sl ho
    obtain ⟨ht, h1⟩ := and2 h1
    have ht := of_decide_eq_true ht
    subst ht
    split at h1
    · rename_i C' bm k0 k1 k2 k3 n k5 hm hs
      obtain ⟨e0, h1⟩ := and2 h1
      obtain ⟨e1, h1⟩ := and2 h1
      obtain ⟨e2, h1⟩ := and2 h1
      obtain ⟨e3, h1⟩ := and2 h1
      obtain ⟨e4, e5⟩ := and2 h1
      have g1 := of_decide_eq_true e1
      have g2 := of_decide_eq_true e2
      have g3 : cd.hasDel = false := by
        cases q : cd.hasDel with
        | false => rfl
        | true =>
          rw [q] at e3
          cases e3
      clear h1 e0 e1 e2 e3 h
      subst g1 g2
      obtain ⟨nm, bs, mro, ns, qn, hd, sn, sub, ab, col, del⟩ := cd
      dsimp only at hm g3 e4
      subst hm g3 e4
      have hsl : sl = #[k0, k1, k2, k3, some (.builtin "ValueError.__new__"), k5] := by
        obtain ⟨l⟩ := sl
        simp only at hs
        rw [hs]
      subst hsl
      exact ⟨_, _, _, _, bm, _, _, _, _, _, _, _, _, _, _, ho, e5⟩
    · cases h1
  · cases h1
/-- .. and asked by isinstance -/
def excCB (K : PySem.W.Frag) (D : Addr) : Bool := decide (PySem.W.findIn K (.ref D) "__getattribute__" = some (some (.builtin "BaseException.__getattribute__"))) && (decide (PySem.W.findIn K (.ref D) "__getattr__" = some none) &&
  (decide (PySem.W.subIn K (.ref D) (.type "BaseException") = some true) && (PySem.W.hasDictIn K D && (decide (PySem.W.findIn K (.ref D) "__class__" = some (some (.builtin "object.__class__"))) &&
  (decide (PySem.W.specialIn K (.builtin "object.__class__") "__get__" = some (some (.builtin "getset_descriptor.__get__"))) && (decide (PySem.W.takesIn K (.builtin "object.__class__") = some true) && decide (PySem.W.mroIn K D (.type "object") = some true)))))))
theorem excCB_ok {K : PySem.W.Frag} {D : Addr} (h : excCB K D = true) : ExcC K D := by
  obtain ⟨h1, h⟩ := and2 h
  obtain ⟨h2, h⟩ := and2 h
  obtain ⟨h3, h⟩ := and2 h
  obtain ⟨h4, h⟩ := and2 h
  obtain ⟨h5, h⟩ := and2 h
  obtain ⟨h6, h⟩ := and2 h
  obtain ⟨h7, h8⟩ := and2 h
  exact ⟨of_decide_eq_true h1, of_decide_eq_true h2, of_decide_eq_true h3, h4, of_decide_eq_true h5, of_decide_eq_true h6, of_decide_eq_true h7, of_decide_eq_true h8⟩
/-- the whole of a class that is raised: its __init__ at f, what its instances' fields ask -/
structure ExT (K : PySem.W.Frag) (C f : Addr) : Prop where
  oex : OexC K C
  init : PySem.W.findIn K (.ref C) "__init__" = some (some (.ref f))
  fn : PySem.W.typeIn K (.ref f) = some (.type "function")
  xf : XfC K C
  exc : ExcC K C
def exTB (K : PySem.W.Frag) (C f : Addr) : Bool := oexB K C && (decide (PySem.W.findIn K (.ref C) "__init__" = some (some (.ref f))) && (decide (PySem.W.typeIn K (.ref f) = some (.type "function")) && (xfB K C && excCB K C)))
theorem exTB_ok {K : PySem.W.Frag} {C f : Addr} (h : exTB K C f = true) : ExT K C f := by
  obtain ⟨h1, h⟩ := and2 h
  obtain ⟨h2, h⟩ := and2 h
  obtain ⟨h3, h⟩ := and2 h
  obtain ⟨h4, h5⟩ := and2 h
  exact ⟨oexB_ok h1, of_decide_eq_true h2, of_decide_eq_true h3, xfB_ok h4, excCB_ok h5⟩
abbrev FnP (K : PySem.W.Frag) (x : Str) (st : Stmt) (f : Addr) (fd : FuncData) : Prop := FunD K x x (defArgs st) (defBody st) (defScope st) [] [] f fd
abbrev FnM (K : PySem.W.Frag) (x q : Str) (st : Stmt) (f : Addr) (fd : FuncData) : Prop := FunD K x q (defArgs st) (defBody st) (defScope st) [] [] f fd
/-- a def of the top, known by its name, keeps the promise sp -/
structure Ok (P : Program) (w : World) (K : PySem.W.Frag) (mg : Str → Option Value) (base : Heap) (CX : CXT) (k : Nat) (x : Str) (ps : List Str) (sp : Sp) : Prop where
  ex : ∃ f fd, FnOk P w K mg base CX k f fd ps sp ∧ mg x = some (.ref f) ∧ PySem.W.keepIn K (.ref f) = true ∧ Binds K fd ps []
section
variable {P : Program} {w : World} {K : PySem.W.Frag} {mg : Str → Option Value} {base : Heap} {CX : CXT} {k j : Nat} {x : Str} {ps N : List Str} {sp sp' : Sp} {st : Stmt}
theorem Ok.mono (o : Ok P w K mg base CX j x ps sp) (h : j ≤ k) : Ok P w K mg base CX k x ps sp := by
  obtain ⟨f, fd, h1, h2⟩ := o.ex
  exact ⟨f, fd, h1.mono h, h2⟩
theorem Ok.imp (o : Ok P w K mg base CX k x ps sp) (h : ∀ vs H Q E, sp' vs H Q E → sp vs H Q E) : Ok P w K mg base CX k x ps sp' := by
  obtain ⟨f, fd, h1, h2⟩ := o.ex
  exact ⟨f, fd, h1.imp h, h2⟩
/-- a promise that is never asked -/
theorem Ok.never (e : ∃ f fd, FnP K x st f fd ∧ mg x = some (.ref f))
    (hb : ∀ (kV doc pm : Value) (an : Option Addr) (cdv ct : Value) (us : List Value), us.length = ps.length → bindArgs (PySem.W.fnOf x x (defArgs st) (defBody st) (defScope st) .none kV doc pm an cdv ct) ⟨us, []⟩ = pure (ps.zip us)) : Ok P w K mg base CX k x ps (fun _ _ _ _ => False) := by
  obtain ⟨f, fd, F, g⟩ := e
  exact ⟨f, fd, ⟨fun _ _ _ _ z => z.elim, fun _ _ _ _ _ _ _ _ _ _ _ _ _ z => z.elim⟩, g, F.kp, F.bindsN hb⟩
/-- a def that lets nothing out -/
theorem Ok.def0 (e : ∃ f fd, FnP K x st f fd ∧ mg x = some (.ref f))
    (hb : ∀ (kV doc pm : Value) (an : Option Addr) (cdv ct : Value) (us : List Value), us.length = ps.length → bindArgs (PySem.W.fnOf x x (defArgs st) (defBody st) (defScope st) .none kV doc pm an cdv ct) ⟨us, []⟩ = pure (ps.zip us))
    (S : FnScope N ps (defScope st)) (len : ∀ vs H Q E, sp vs H Q E → vs.length = ps.length)
    (hbody : ∀ (f : Addr) (cdv : Value) (A : Around) (outer : List Env) (s : Shared) (H : Hp) (vs : List V) (Q : VK) (E : XK), Room k (A.deeper (envOfC x (defScope st) s.heap.objs.size f cdv)) → sp vs H Q E →
      ∃ t, PSs (cxOf CX0 P w K mg base N x (defScope st) f cdv A outer s H E).nox (defBody st) t ∧ t { nx := fun _ H' => Q .non H', rt := Q } (start N vs) H) : Ok P w K mg base CX0 (k + 1) x ps sp := by
  obtain ⟨f, fd, F, g⟩ := e
  refine ⟨f, fd, F.ok S len fun cdv A outer s H vs Q E hr h => ?_, g, F.kp, F.bindsN hb⟩
  obtain ⟨t, h1, h2⟩ := hbody f cdv A outer s H vs Q E hr h
  exact ⟨t, h1.nox, h2⟩
/-- a def that may raise -/
theorem Ok.defX (e : ∃ f fd, FnP K x st f fd ∧ mg x = some (.ref f))
    (hb : ∀ (kV doc pm : Value) (an : Option Addr) (cdv ct : Value) (us : List Value), us.length = ps.length → bindArgs (PySem.W.fnOf x x (defArgs st) (defBody st) (defScope st) .none kV doc pm an cdv ct) ⟨us, []⟩ = pure (ps.zip us))
    (S : FnScope N ps (defScope st)) (len : ∀ vs H Q E, sp vs H Q E → vs.length = ps.length)
    (hbody : ∀ (f : Addr) (cdv : Value) (A : Around) (outer : List Env) (s : Shared) (H : Hp) (vs : List V) (Q : VK) (E : XK), Room k (A.deeper (envOfC x (defScope st) s.heap.objs.size f cdv)) → sp vs H Q E →
      Takes (cxOf (L2.CX P w) P w K mg base N x (defScope st) f cdv A outer s H E) (fun cls d _ H => E cls d H) →
      ∃ t, PSs (cxOf (L2.CX P w) P w K mg base N x (defScope st) f cdv A outer s H E) (defBody st) t ∧ t { nx := fun _ H' => Q .non H', rt := Q } (start N vs) H) : Ok P w K mg base (L2.CX P w) (k + 1) x ps sp := by
  obtain ⟨f, fd, F, g⟩ := e
  refine ⟨f, fd, F.ok S len fun cdv A outer s H vs Q E hr h => ?_, g, F.kp, F.bindsN hb⟩
  exact hbody f cdv A outer s H vs Q E hr h (takes_of rfl rfl rfl rfl)
end
section
variable {X : Cx} {CX : CXT} {k : Nat} {x : Str} {ps : List Str} {sp : Sp} {E : XK} {p pos : Pos} {e : Expr} {es : List Expr} {t : TA}
theorem pe_ok (O : Ok X.prog X.w X.K X.mg X.base CX k x ps sp) (hr : Room k X.A) (hg : Gl X x) (hx : Passes CX X E) (ha : PA X (e :: es) t)
    (hdb : (x == ("__debug__" : Str)) = false := by decide) (he : starEach (e :: es) X.env = (false, eval e X.env) :: starEach es X.env := by rfl) (hpl : (backTo pos (starEach es X.env)).any (·.1) = false := by rfl) :
    PE X (.Call (.Name x p) (e :: es) [] pos) (tCall sp [] E t) := by
  obtain ⟨f, fd, F, hm, hk, hb⟩ := O.ex
  exact pe_call F hr hg hm hk hb .nil hx ha hdb he hpl
/-- what is raised is wished for at the caller's slots -/
theorem pe_okS {E : St → XK} (O : Ok X.prog X.w X.K X.mg X.base CX k x ps sp) (hr : Room k X.A) (hg : Gl X x) (hx : ∀ σ, PassesAt CX X σ (E σ)) (ha : PA X (e :: es) t)
    (hdb : (x == ("__debug__" : Str)) = false := by decide) (he : starEach (e :: es) X.env = (false, eval e X.env) :: starEach es X.env := by rfl) (hpl : (backTo pos (starEach es X.env)).any (·.1) = false := by rfl) :
    PE X (.Call (.Name x p) (e :: es) [] pos) (tCallS sp E t) := by
  obtain ⟨f, fd, F, hm, hk, hb⟩ := O.ex
  exact pe_callS F hr hg hm hk hb hx ha hdb he hpl
end
/-- an own exception class, known by its name, whose __init__ keeps sp -/
structure XOk (P : Program) (w : World) (K : PySem.W.Frag) (mg : Str → Option Value) (base : Heap) (k : Nat) (x : Str) (C : Addr) (ps : List Str) (sp : Sp) : Prop where
  ex : ∃ f fd, ExT K C f ∧ FnOk P w K mg base CX0 k f fd ps sp ∧ mg x = some (.ref C) ∧ Binds K fd ps []
theorem pmk_x {X : Cx} {k : Nat} {x : Str} {C : Addr} {ps : List Str} {sp : Sp} {p pos : Pos} {e : Expr} {es : List Expr} {ta : TA} (O : XOk X.prog X.w X.K X.mg X.base k x C ps sp) (hr : Room (k + 1) X.A) (hg : Gl X x) (ha : PA X (e :: es) ta)
    (hdb : (x == ("__debug__" : Str)) = false := by decide) (he : starEach (e :: es) X.env = (false, eval e X.env) :: starEach es X.env := by rfl) (hpl : (backTo pos (starEach es X.env)).any (·.1) = false := by rfl) :
    PMk X (.Call (.Name x p) (e :: es) [] pos) (tMkO C sp [] ta) := by
  obtain ⟨f, fd, T, F, hm, hb⟩ := O.ex
  exact pmk_oex T.oex T.init T.fn F hr hb .nil pass0 hg hm ha hdb he hpl
end L2
end
section
set_option maxRecDepth 100000
set_option maxHeartbeats 4000000
/-! ### the head's facts, the interpreter's own statics among what is looked at -/
namespace He
open PySem PySem.Spec PyProof.Rows L2
def asS (g : Addr → Option Obj) (n : Nat) : List Addr := PySem.cStatics :: asD g n
def obsS (n : Nat) (fa : List Fa) (fn : List DefD) (ts : List Tab) (tf : List Defn) (ex : PySem.W.Frag → Bool) (g : Addr → Option Obj) : AlX := (obsT fa fn ts (frT g (asS g n)), ex (frT g (asS g n)) && tabsB g tf (frT g (asS g n)))
theorem saysS_of {n : Nat} {fa : List Fa} {fn : List DefD} {ts : List Tab} {tf : List Defn} {ex : PySem.W.Frag → Bool} {w : World} {h : Heap} (e : obsS n fa fn ts tf ex h.get? = valX fn ts w) : SaysX fa fn ts tf ex w h (frT h.get? (asS h.get? n)) := by
  have e1 := congrArg Prod.fst e
  have e2 : (ex (frT h.get? (asS h.get? n)) && tabsB h.get? tf (frT h.get? (asS h.get? n))) = true := congrArg Prod.snd e
  obtain ⟨hx, ht⟩ := ba e2
  have tab : ∀ p ∈ tf, PySem.W.codeHdIn (frT h.get? (asS h.get? n)) (cT (frT h.get? (asS h.get? n)) p).1 (cT (frT h.get? (asS h.get? n)) p).2 = true ∧ ∃ o, h.get? (cT (frT h.get? (asS h.get? n)) p).2 = some o ∧ emptyTab o = true := by
    intro p hp
    obtain ⟨c1, c2⟩ := ba (List.all_eq_true.mp ht p hp)
    refine ⟨c1, ?_⟩
    revert c2
    cases h.get? (cT (frT h.get? (asS h.get? n)) p).2 with
    | none => exact fun z => by cases z
    | some o => exact fun z => ⟨o, rfl, z⟩
  exact {
    t := e1
    more := hx
    hd := fun p hp => (tab p hp).1
    out := fun p hp => let ⟨_, o, q, z⟩ := tab p hp; frT_none q z
    empty := fun p hp => let ⟨_, o, q, z⟩ := tab p hp; by rw [q, emptyTab_eq z] }
def hookS (n : Nat) (fa : List Fa) (fn : List DefD) (ts : List Tab) (tf : List Defn) (ex : PySem.W.Frag → Bool) : PySem.W.Hook where
  α := AlX
  obs := fun s => obsS n fa fn ts tf ex s.heap.get?
  val := fun w => valX fn ts w
  says := fun w h => ∃ K : PySem.W.Frag, K.In h ∧ SaysX fa fn ts tf ex w h K
  of := fun _ _ e => ⟨_, frT_in, saysS_of e⟩
  keeps := fun _ _ _ ⟨K, hK, c⟩ k => ⟨K, PySem.W.Frag.In.keeps hK k, ⟨c.t, c.more, c.hd, c.out, fun p hp => k _ _ (c.empty p hp)⟩⟩
theorem obsS_eq {n : Nat} {fa : List Fa} {fn : List DefD} {ts : List Tab} {tf : List Defn} {ex : PySem.W.Frag → Bool} {g : Addr → Option Obj} {s : Shared} (h : ∀ a, g a = s.heap.get? a) : obsS n fa fn ts tf ex g = (hookS n fa fn ts tf ex).obs s := by
  obtain rfl : g = s.heap.get? := funext h
  rfl
end He
end
section
set_option maxRecDepth 100000
set_option maxHeartbeats 4000000
namespace LamX
open PySem PySem.Spec PyProof.Rows L2
/-! ### x(), what it may raise told of the slots at the call -/
section
variable {X : Cx} {pins : List (Addr × Obj)} {σ : L2.St} {H : Hp} {s : Shared}
theorem pe_act3 {CXg : CXT} {Eg : XK} {Ng : List Str} {qg : Str} {sg : Scope} {g f c' : Addr} {cdg pm ctv : Value} {params : Arguments} {body : Expr} {scope : Scope} {k i : Nat} {a : Str} {pn : List (Addr × Obj)} {xe : Value → Shared → Prop} {W : WX} {E : XK} {tb : TE} {p1 p2 : Pos}
    (I : Inv X pins σ H s) (L : LamS X.env.scope scope) (hf : s.heap.get? f = some (PySem.W.kla_obj "<lambda>" (X.env.qual ++ "<lambda>") params body scope (cloFrom X.env.cells scope.names []) pm c' ctv)) (hfn : H f = none) (hfr : f ∉ frs X.stack)
    (hbind : bindArgs (PySem.W.kla_fn "<lambda>" (X.env.qual ++ "<lambda>") params body scope (cloFrom X.env.cells scope.names []) pm (.ref c') ctv) ⟨[], []⟩ = pure [])
    (tk : Takes ((cxOf CXg X.prog X.w X.K X.mg X.base Ng qg sg g cdg X.A X.stack s H Eg).tr pn xe) W) (hr : Room (k + 1) (X.A.deeper (envOfC qg sg s.heap.objs.size g cdg)))
    (hbody : ∀ (A : Around) (outer : List Env) (s : Shared) (H : Hp), Room k (A.deeper (lamEnv X scope s.heap.objs.size f c')) → PE (lamCx X A outer s H E scope f c') body tb)
    (hN : Ng[i]? = some a) (hv : Vis sg a) (hd : (a == ("__debug__" : Str)) = false := by decide) (hcd : (a == ("__classdict__" : Str)) = false := by decide) :
    PE ((cxOf CXg X.prog X.w X.K X.mg X.base Ng qg sg g cdg X.A X.stack s H Eg).tr pn xe) (.Call (.Name a p1) [] [] p2)
      (fun σZ HZ Q => σZ[i]? = some (some (.ref f)) ∧ HZ c' = some (CodeO c' (X.env.qual ++ "<lambda>")) ∧ (∀ cls d H', E cls d H' → W cls d σZ H') ∧ tb σ HZ Q) := by
  refine ⟨fun pinsZ sZ σZ HZ Q IZ h => ?_⟩
  obtain ⟨hs, hc, hW, ht⟩ := h
  refine wpAny_Call_Name_kw (thn ((pe_var (pos := p1) (i := i) hN hv hd hcd).run pinsZ sZ σZ HZ (fun v H1 => v = .ref f ∧ H1 = HZ) IZ ⟨.ref f, hs, rfl, rfl⟩) fun u s1 ⟨v, H1, I1, r1, q1⟩ => ?_)
  obtain ⟨ev, eH⟩ := q1
  subst ev
  rw [eH] at I1
  obtain rfl : u = Value.ref f := r1
  have of1 : s1.heap.get? f = some (PySem.W.kla_obj "<lambda>" (X.env.qual ++ "<lambda>") params body scope (cloFrom X.env.cells scope.names []) pm c' ctv) := I1.base.keep f _ hf hfn hfr (fun z => nomatch (show f ∈ ([] : List Addr) from z))
  refine PySem.W.callWith_F0 ⟨_, _, _, _, of1⟩ ?_
  have un : Un (frs X.stack) [] H HZ s.heap s1.heap := I1.base
  obtain ⟨⟨oc, vs, t, hoc, hdc, hvc⟩, _, _⟩ := I1.hok c' _ hc
  have rc : codeAny (model X.prog X.w) (X.A.deeper (envOfC qg sg s.heap.objs.size g cdg)) (.call (.ref f) ⟨[], []⟩) (CR (L2.CX X.prog X.w) (envOfC qg sg s.heap.objs.size g cdg :: X.stack) X.prog X.w HZ s1 Q E) s1 := by
    refine PySem.W.kla_callFunE hr.depth of1 rfl L.co L.gen rfl ⟨c', oc, vs, t, rfl, hoc, hdc, hvc⟩ ?_
    rw [hbind]
    refine wpAny_pure (wpAny_newFunctionEnv (fun y hy => (L.own y hy).2) (fun y hy => absurd hy (by simp)) (fun h₁ hns hsb => ⟨I1.nolimit.fresh _ hsb, ?_⟩) L.kind)
    show codeAny _ _ (.expr body (lamEnv X scope s1.heap.objs.size f c')) _ _
    have kp : ∀ b o, s1.heap.get? b = some o → h₁.get? b = some o := fun b o e => hsb.extBut b o (Nat.ne_of_lt (Heap.lt_size e)) (Heap.get?_push_of_some _ e)
    have J : Inv (lamCx X (X.A.deeper (envOfC qg sg s.heap.objs.size g cdg)) (envOfC qg sg s.heap.objs.size g cdg :: X.stack) s1 HZ E scope f c') [] σ HZ { s1 with heap := h₁, toks := s1.toks + ([] : List (Str × Value)).length } :=
      lam_start2 I L I1.env0 hr.hd un hns kp
    refine PySem.W.kla_codeExpr (wpAny_mono ((hbody _ _ s1 HZ (hr.deeper _)).run [] _ _ HZ Q J ht) (fun v s' hq => ?_) fun e s' hq => hq)
    obtain ⟨w', H', J', rv, q⟩ := hq
    exact ⟨w', H', J'.os, J'.bare, J'.base, J'.hok, rv, q⟩
  refine wpAny_call (codeAny_mono rc fun r s' hq => ?_)
  cases r with
  | error e => exact tk e s' (XE.of_call I1 (fun cls d H' h => hW cls d H' h) hq)
  | ok fl =>
    cases fl with
    | ret u => exact I1.after hq
    | next => exact False.elim hq
    | brk => exact False.elim hq
    | cont => exact False.elim hq
end
def Gives3 (X : Cx) (Ng : List Str) (x : Str) (sg : Scope) (g : Addr) (cdg : Value) (bg : List Stmt) (a : Str) (q : Str) (TT : (XK → Hp → VK → Prop) → (Hp → Prop) → V → Hp → VK → Prop) : Prop :=
  ∀ (f c' : Addr) (s : Shared) (H : Hp) (Q : VK) (v2 : V) (tl : XK → Hp → VK → Prop),
    (∀ (W : WX) (pn : List (Addr × Obj)) (xe : Value → Shared → Prop) (E : XK) (p1 p2 : Pos), Takes ((cxOf C8.CX0 X.prog X.w X.K X.mg X.base Ng x sg g cdg X.A X.stack s H C8.E0).tr pn xe) W →
      PE ((cxOf C8.CX0 X.prog X.w X.K X.mg X.base Ng x sg g cdg X.A X.stack s H C8.E0).tr pn xe) (.Call (.Name a p1) [] [] p2) (fun σZ HZ Q => σZ[0]? = some (some (.ref f)) ∧ HZ c' = some (CodeO c' q) ∧ (∀ cls d H', E cls d H' → W cls d σZ H') ∧ tl E HZ Q)) →
    H c' = some (CodeO c' q) → TT tl (fun H' => H' c' = some (CodeO c' q)) v2 H Q →
    ∃ t, PSs (cxOf C8.CX0 X.prog X.w X.K X.mg X.base Ng x sg g cdg X.A X.stack s H C8.E0).nox bg t ∧ t { nx := fun _ H' => Q .non H', rt := Q } (L2.start Ng [.ref f, v2]) H
section
variable {X : Cx}
theorem pe_lamcall3 {T : List (Addr × Str)} {TT : (XK → Hp → VK → Prop) → (Hp → Prop) → V → Hp → VK → Prop} {x a a2 : Str} {g c P : Addr} {k : Nat} {pg : Arguments} {bg : List Stmt} {sg : Scope} {dV kV doc pm cdv ct oc : Value} {an od : Option Addr} {osl : Array (Option Value)} {Ng : List Str}
    {params : Arguments} {body : Expr} {scope : Scope} {t : XK → TE} {p lpos pos : Pos} {e2 : Expr} {te : TE} (hg : Gl X x) (hm : X.mg x = some (.ref g)) (hk : PySem.W.keepIn X.K (.ref g) = true)
    (lk : X.K.lookup g = some ⟨oc, od, .func (PySem.W.fnOf x x pg bg sg dV kV doc pm an cdv ct), osl⟩) (hcg : PySem.W.codeIn X.K cdv x = true) (hb : L2.Binds X.K (PySem.W.fnOf x x pg bg sg dV kV doc pm an cdv ct) [a, a2] []) (Sg : FnScope Ng [a, a2] sg) (hNg : Ng[0]? = some a) (hva : Vis sg a)
    (hG : Gives3 X Ng x sg g cdv bg a (X.env.qual ++ "<lambda>") TT)
    (TB : TabB X.base X.mg c P) (hcode : X.env.code = .ref c) (hmT : (P, X.env.qual ++ "<lambda>") ∈ T) (hu : ∀ p ∈ T, p.1 = P → p.2 = X.env.qual ++ "<lambda>") (hr : Room (k + 2) X.A) (L : LamS X.env.scope scope) (hdef : defaultsOf params X.env = ([], []))
    (hbind : ∀ (q : Str) (cl : List (Str × Addr)) (pm cv ctv : Value), bindArgs (PySem.W.kla_fn "<lambda>" q params body scope cl pm cv ctv) ⟨[], []⟩ = pure [])
    (hbody : ∀ (A : Around) (outer : List Env) (s : Shared) (H : Hp) (E : XK) (f c' : Addr), Room k (A.deeper (lamEnv X scope s.heap.objs.size f c')) → PE (lamCx X A outer s H E scope f c') body (t E))
    (he2 : PA X [e2] (tCons te tNil))
    (hdb : (x == ("__debug__" : Str)) = false := by decide) (hd : (a == ("__debug__" : Str)) = false := by decide) (hcd : (a == ("__classdict__" : Str)) = false := by decide)
    (hs : starEach [.Lambda params body scope lpos, e2] X.env = (false, eval (.Lambda params body scope lpos) X.env) :: starEach [e2] X.env := by rfl) (hpl : (backTo pos (starEach [e2] X.env)).any (·.1) = false := by rfl) :
    PE X (.Call (.Name x p) [.Lambda params body scope lpos, e2] [] pos) (tLam2 T (X.env.qual ++ "<lambda>") TT t te) := by
  constructor
  intro pins s σ H Q I h
  obtain ⟨hT, h⟩ := h
  refine wpAny_Call_Name_kw (ld_glob I hg hm ?_ hdb)
  refine PySem.W.callWith_K (h₀ := X.base) I.ok.mod.kin hk ?_ hs hpl
  rw [hs]
  show wpAny _ _ (spliced ((false, eval (.Lambda params body scope lpos) X.env) :: backTo pos (starEach [e2] X.env))) _ _ s
  refine Calls.spliced_cons (lam_make2 I TB hcode hmT hu hT hdef (L.has I.ok) fun f c' pm' ctv H1 s' I1 eN T1 hf hfn hfr hco => ?_)
  have hcell : ∀ v, (PySem.W.kla_obj "<lambda>" (X.env.qual ++ "<lambda>") params body scope (cloFrom X.env.cells scope.names []) pm' c' ctv).data ≠ .cell v := fun v z => by cases z
  have fL : f ≠ X.env.locals := fun z => by
    obtain ⟨m, ⟨o, es, ep, e1, e2', _⟩, _⟩ := I1.loc
    rw [← z, hf] at e1
    have e3 := Option.some.inj e1
    rw [← e3] at e2'
    cases e2'
  have Ip : Inv X ((f, _) :: pins) σ H1 s' := I1.pins_of fun r hr => by
    rcases List.mem_cons.mp hr with e | e
    · subst e
      exact ⟨hf, hfn, fL, fun z => hfr (by
        rcases I1.ok.stk with e | ⟨e, _⟩
        · rw [e]; exact z
        · rw [e]
          show f ∈ (X.env :: X.outer).filterMap _
          rw [List.filterMap_cons]
          split
          · exact z
          · exact List.mem_cons_of_mem _ z), hcell⟩
    · exact I1.pin r (List.mem_append_right _ e)
  have h2 := h H1 c' eN T1 hco
  refine thn (he2.run pos _ s' σ H1 (fun vs H2 => ∃ v2, vs = [v2] ∧ H2 c' = some (CodeO c' (X.env.qual ++ "<lambda>")) ∧ TT (fun E H' Q' => t E σ H' Q') (fun H' => H' c' = some (CodeO c' (X.env.qual ++ "<lambda>"))) v2 H2 Q) Ip h2) ?_
  rintro us s2 ⟨vs, H2, I2, r2, v2, rfl, hc2, q2⟩
  obtain ⟨u2, rfl, ru2⟩ := vals1 r2
  refine ⟨I2.kIn, ?_⟩
  obtain ⟨hf2, hfn2, _⟩ := I2.pin (f, _) (List.mem_append_right _ List.mem_cons_self)
  have J2 : Inv X pins σ H2 s2 := ClX.unpin I2
  have rc : codeAny (model X.prog X.w) X.A (.call (.ref g) ⟨[.ref f, u2], []⟩) (CR C8.CX0 X.stack X.prog X.w H2 s2 Q C8.E0) s2 := by
    refine run_ofS (N := Ng) (ps := [a, a2]) (us := [.ref f, u2]) (vs := [.ref f, v2]) lk hcg Sg hr J2.env0 (hb s2 [.ref f, u2] J2.kIn rfl) (.cons rfl (.cons ru2 .nil)) rfl fun hr' => ?_
    obtain ⟨t', ht', hq'⟩ := hG f c' s2 H2 Q v2 (fun E H' Q' => t E σ H' Q') (fun W pn xe E p1 p2 tk => pe_act3 (i := 0) J2 L hf2 hfn2 hfr (hbind _ _ _ _ _) tk hr' (fun A outer s H hr2 => hbody A outer s H E f c' hr2) hNg hva hd hcd) hc2 q2
    exact ⟨t', ht'.nox, hq'⟩
  refine wpAny_call (codeAny_mono rc ?_)
  intro r s3 hq
  cases r with
  | error e => exact (show False from hq).elim
  | ok fl =>
    cases fl with
    | ret u => exact J2.after hq
    | next => exact False.elim hq
    | brk => exact False.elim hq
    | cont => exact False.elim hq
end
end LamX
end
section
set_option maxRecDepth 100000
set_option maxHeartbeats 4000000
namespace L2
open PySem PySem.Spec PyProof.Rows
/-! ### defs that make lambdas -/
section
variable {P : Program} {w : World} {K : PySem.W.Frag} {mg : Str → Option Value} {base : Heap} {CX : CXT} {k j : Nat} {x : Str} {ps N : List Str} {sp : Sp} {st : Stmt} {cc : Addr}
/-- a def that lets nothing out, its code object known -/
theorem Ok.defC (e : ∃ f fd, FnP K x st f fd ∧ mg x = some (.ref f) ∧ fd.code = .ref cc)
    (hb : ∀ (kV doc pm : Value) (an : Option Addr) (cdv ct : Value) (us : List Value), us.length = ps.length → bindArgs (PySem.W.fnOf x x (defArgs st) (defBody st) (defScope st) .none kV doc pm an cdv ct) ⟨us, []⟩ = pure (ps.zip us))
    (S : FnScope N ps (defScope st)) (len : ∀ vs H Q E, sp vs H Q E → vs.length = ps.length)
    (hbody : ∀ (f : Addr) (A : Around) (outer : List Env) (s : Shared) (H : Hp) (vs : List V) (Q : VK) (E : XK), Room k (A.deeper (envOfC x (defScope st) s.heap.objs.size f (.ref cc))) → sp vs H Q E →
      ∃ t, PSs (cxOf CX0 P w K mg base N x (defScope st) f (.ref cc) A outer s H E).nox (defBody st) t ∧ t { nx := fun _ H' => Q .non H', rt := Q } (start N vs) H) : Ok P w K mg base CX0 (k + 1) x ps sp := by
  obtain ⟨f, fd, F, g, hc⟩ := e
  refine ⟨f, fd, ?_, g, F.kp, F.bindsN hb⟩
  obtain ⟨oc, od, dV, kV, doc, pm, an, cdv, ct, osl, rfl, lk, hcd, _, _⟩ := F.ex
  obtain rfl : cdv = .ref cc := hc
  exact fn_of lk hcd S len fun A outer s H vs Q E hr hsp => by
    obtain ⟨t, h1, h2⟩ := hbody f A outer s H vs Q E hr hsp
    exact ⟨t, h1.nox, h2⟩
/-- a def of the top that asks that no repr is under way -/
structure OkG (P : Program) (w : World) (K : PySem.W.Frag) (mg : Str → Option Value) (base : Heap) (k : Nat) (x : Str) (ps : List Str) (sp : Sp) : Prop where
  ex : ∃ f fd, FnG P w K mg base k f fd ps sp ∧ mg x = some (.ref f) ∧ PySem.W.keepIn K (.ref f) = true ∧ Binds K fd ps []
theorem OkG.defC (e : ∃ f fd, FnP K x st f fd ∧ mg x = some (.ref f) ∧ fd.code = .ref cc)
    (hb : ∀ (kV doc pm : Value) (an : Option Addr) (cdv ct : Value) (us : List Value), us.length = ps.length → bindArgs (PySem.W.fnOf x x (defArgs st) (defBody st) (defScope st) .none kV doc pm an cdv ct) ⟨us, []⟩ = pure (ps.zip us))
    (S : FnScope N ps (defScope st)) (len : ∀ vs H Q E, sp vs H Q E → vs.length = ps.length)
    (hbody : ∀ (f : Addr) (A : Around) (outer : List Env) (s : Shared) (H : Hp) (vs : List V) (Q : VK), Room k (A.deeper (envOfC x (defScope st) s.heap.objs.size f (.ref cc))) → A.guards = some [] → sp vs H Q E0 →
      ∃ t, PSs (cxOf CX0 P w K mg base N x (defScope st) f (.ref cc) A outer s H E0).nox (defBody st) t ∧ t { nx := fun _ H' => Q .non H', rt := Q } (start N vs) H) : OkG P w K mg base (k + 1) x ps sp := by
  obtain ⟨f, fd, F, g, hc⟩ := e
  have B : Binds K fd ps [] := F.bindsN hb
  refine ⟨f, fd, ?_, g, F.kp, B⟩
  obtain ⟨oc, od, dV, kV, doc, pm, an, cdv, ct, osl, rfl, lk, hcd, _, _⟩ := F.ex
  obtain rfl : cdv = .ref cc := hc
  constructor
  · exact len
  · intro A outer s H args us vs Q hr hgd e0 hbt r hsp
    refine LamX.run_ofS lk hcd S hr e0 hbt r (len _ _ _ _ hsp) fun hr' => ?_
    obtain ⟨t, h, q⟩ := hbody f A outer s H vs Q hr' hgd hsp
    exact ⟨t, h.nox, q⟩
end
theorem pe_okG {X : Cx} {k : Nat} {x : Str} {ps : List Str} {sp : Sp} {p pos : Pos} {e : Expr} {es : List Expr} {t : TA} (O : OkG X.prog X.w X.K X.mg X.base k x ps sp) (hr : Room k X.A) (hgd : X.A.guards = some []) (hg : Gl X x) (ha : PA X (e :: es) t)
    (hdb : (x == ("__debug__" : Str)) = false := by decide) (he : starEach (e :: es) X.env = (false, eval e X.env) :: starEach es X.env := by rfl) (hpl : (backTo pos (starEach es X.env)).any (·.1) = false := by rfl) :
    PE X (.Call (.Name x p) (e :: es) [] pos) (tCallE sp t) := by
  obtain ⟨f, fd, F, hm, hk, hb⟩ := O.ex
  exact pe_callG F hr hgd hg hm hk hb ha hdb he hpl
end L2
namespace LamX
open PySem PySem.Spec PyProof.Rows L2
theorem Gives2.three {X : Cx} {Ng : List Str} {x : Str} {sg : Scope} {g : Addr} {cdg : Value} {bg : List Stmt} {a q : Str} {TT : (XK → Hp → VK → Prop) → (Hp → Prop) → V → Hp → VK → Prop} (h : Gives2 X Ng x sg g cdg bg a q TT) : Gives3 X Ng x sg g cdg bg a q TT := by
  intro f c' s H Q v2 tl hc hco hT
  exact h f c' s H Q v2 tl (fun W pn xe E p1 p2 tk hW => ⟨fun pins s' σ H' Q' I hq => (hc W pn xe E p1 p2 tk).run pins s' σ H' Q' I ⟨hq.1, hq.2.1, fun cls d H2 he => hW cls d _ H2 he, hq.2.2⟩⟩) hco hT
end LamX
end
section
set_option maxRecDepth 100000
set_option maxHeartbeats 4000000
/-! the end of a row whose law asks that no repr is under way (after the end with tables) -/
namespace LamX
open PySem PySem.Spec PyProof.Rows L2
/-! ### the first state: nothing is tracked but the empty tables and, where it is not in the written part, the script -/
abbrev tabO : Obj := { cls := .none, data := .fields #[] }
abbrev scrO (us : List Value) : Obj := { cls := .type "list", data := .seq us.toArray }
structure First (K : PySem.W.Frag) (h : Heap) (T : List Addr) (a : Addr) (us : List Value) (ns : List Int) (H : Hp) : Prop where
  tab : ∀ b ∈ T, H b = some (.tbl #[])
  only : ∀ b u, H b = some u → (b ∈ T ∧ u = .tbl #[]) ∨ (b = a ∧ K.lookup a = none ∧ u = .frz (scrO us) (.lst (ns.map V.int)))
  seq : SqL K H a (ns.map V.int)
section
variable {P : Program} {w : World} {K : PySem.W.Frag} {h : Heap} {T : List Addr} {a : Addr} {us : List Value} {ns : List Int} {H : Hp}
theorem first_ex (KX : K.In h) (ha : h.get? a = some (scrO us)) (hT : ∀ b ∈ T, h.get? b = some tabO) (hi : IntsAre us ns) (hl : ns.length ≤ sizeLine) : ∃ H, First K h T a us ns H := by
  have out : ∀ b ∈ T, b ≠ a := fun b hb e => by
    have q := hT b hb
    rw [e, ha] at q
    have := congrArg Obj.data (Option.some.inj q)
    cases this
  cases hk : K.lookup a with
  | some o =>
    have eo : o = scrO us := Option.some.inj ((KX a o hk).symm.trans ha)
    subst eo
    refine ⟨fun b => if b ∈ T then some (.tbl #[]) else none, fun b hb => if_pos hb, fun b u e => ?_, .inr ⟨scrO us, us.toArray, _, hk, rfl, rfl, rfl, ?_, ?_⟩⟩
    · by_cases m : b ∈ T
      · exact .inl ⟨m, Option.some.inj (e.symm.trans (if_pos m))⟩
      · cases (if_neg m).symm.trans e
    · rw [List.size_toArray, hi.length]; exact hl
    · have := vals_ints hi
      simpa using this
  | none =>
    refine ⟨fun b => if b ∈ T then some (.tbl #[]) else if b = a then some (.frz (scrO us) (.lst (ns.map V.int))) else none, fun b hb => if_pos hb, fun b u e => ?_, .inl (.inr ⟨scrO us, ?_⟩)⟩
    · by_cases m : b ∈ T
      · exact .inl ⟨m, Option.some.inj (e.symm.trans (if_pos m))⟩
      · have e := (if_neg m).symm.trans e
        by_cases q : b = a
        · exact .inr ⟨q, hk, Option.some.inj (e.symm.trans (if_pos q))⟩
        · cases (if_neg q).symm.trans e
    · show (if a ∈ T then some (HO.tbl #[]) else if a = a then _ else none) = _
      rw [if_neg (fun m => out a m rfl), if_pos rfl]
theorem First.get (F : First K h T a us ns H) (ha : h.get? a = some (scrO us)) (hT : ∀ b ∈ T, h.get? b = some tabO) {b : Addr} {u : HO} (e : H b = some u) : h.get? b = some tabO ∨ h.get? b = some (scrO us) := by
  rcases F.only b u e with ⟨m, _⟩ | ⟨rfl, _⟩
  · exact .inl (hT b m)
  · exact .inr ha
/-- an object of another kind is not tracked -/
theorem First.free (F : First K h T a us ns H) (ha : h.get? a = some (scrO us)) (hT : ∀ b ∈ T, h.get? b = some tabO) {b : Addr} {o : Obj} (e : h.get? b = some o) (n1 : o ≠ tabO) (n2 : o ≠ scrO us) : H b = none := by
  cases q : H b with
  | none => rfl
  | some u =>
    rcases F.get ha hT q with z | z
    · exact absurd (Option.some.inj (e.symm.trans z)) n1
    · exact absurd (Option.some.inj (e.symm.trans z)) n2
theorem other_dict {o : Obj} {es : Array DictEntry} {n : Nat} (d : o.data = .dict es n) : o ≠ tabO ∧ o ≠ scrO us := ⟨(fun z => by rw [z] at d; cases d), (fun z => by rw [z] at d; cases d)⟩
theorem First.hok (F : First K h T a us ns H) (ha : h.get? a = some (scrO us)) (hT : ∀ b ∈ T, h.get? b = some tabO) (hi : IntsAre us ns) (hl : ns.length ≤ sizeLine) : HOk P w H h := fun b u e => by
  rcases F.only b u e with ⟨m, rfl⟩ | ⟨rfl, _, rfl⟩
  · exact hT b m
  · exact ⟨ha, by rw [List.length_map]; exact hl, us, _, vals_ints hi, ha⟩
/-- the written part stands in what is not tracked -/
theorem First.kin (F : First K h T a us ns H) (KX : K.In h) (nT : ∀ b ∈ T, K.lookup b = none) : K.In (hidT h H) := fun b o e => by
  refine hidT_get (KX b o e) ?_
  cases q : H b with
  | none => rfl
  | some u =>
    rcases F.only b u q with ⟨m, _⟩ | ⟨rfl, z, _⟩
    · rw [nT b m] at e; cases e
    · rw [z] at e; cases e
theorem First.nsOf (F : First K h T a us ns H) (ha : h.get? a = some (scrO us)) (hT : ∀ b ∈ T, h.get? b = some tabO) {b : Addr} {m : Str → Option Value} (g : h.Ns b m) : (hidT h H).Ns b m := by
  obtain ⟨o, es, n, e, d, r⟩ := g
  exact ⟨o, es, n, hidT_get e (F.free ha hT e (other_dict (us := us) d).1 (other_dict (us := us) d).2), d, r⟩
end
theorem law_callG {P : Program} {w : World} {K : PySem.W.Frag} {mg mb : Str → Option Value} {k : Nat} {fa a : Addr} {cs : List (Addr × Addr)} {fd : FuncData} {x : Str} {sp : Sp} {s : Shared} {us : List Value} {ns : List Int}
    (KX : K.In s.heap) (gl : s.heap.Ns mainGlobals mg) (bl : s.heap.Ns builtinsNs mb) (bb : ∀ x : Str, x ≠ "__name__" → mb x = bootBuiltins x) (lim : s.heap.NoLimit) (gens : s.gens = #[])
    (hTc : ∀ p ∈ cs, s.heap.get? p.2 = some tabO) (nTc : ∀ p ∈ cs, K.lookup p.2 = none) (C : ∀ p ∈ cs, PySem.W.CodeHd s.heap p.1 p.2)
    (bm : ∃ (m : Addr) (o : Obj), mg "__builtins__" = some (.ref m) ∧ m ≠ builtinsNs ∧ s.heap.get? m = some o ∧ o.cls = .type "module" ∧ o.dict = some builtinsNs ∧ o.data = .plain)
    (ha : s.heap.get? a = some (scrO us)) (hi : IntsAre us ns) (hl : ns.length ≤ sizeLine) (hr : Room k callerA) (hgd : callerA.guards = some [])
    (F : ∀ base : Heap, K.In base → base.Ns mainGlobals mg → (∀ p ∈ cs, TabB base mg p.1 p.2) → FnG P w K mg base k fa fd [x] sp) (bind : ∀ (s : Shared) (u : Value), BindsTo s fd ⟨[u], []⟩ [(x, u)])
    (hsp : ∀ H : Hp, (∀ p ∈ cs, H p.2 = some (.tbl #[])) → SqL K H a (ns.map V.int) → sp [.ref a] H (fun v _ => v = .bl true) E0) :
    codeAny (model P w) callerA (.call (.ref fa) ⟨[.ref a], []⟩) (fun r t => r = .ok (.ret (.bool true)) ∧ OldK s.heap t.heap ∧ t.os = s.os ∧ AllBare t.gens) s := by
  have inT : ∀ {p}, p ∈ cs → p.2 ∈ cs.map (·.2) := fun hp => List.mem_map_of_mem hp
  have hT : ∀ b ∈ cs.map (·.2), s.heap.get? b = some tabO := fun b hb => by
    obtain ⟨p, hp, rfl⟩ := List.mem_map.mp hb
    exact hTc p hp
  have nT : ∀ b ∈ cs.map (·.2), K.lookup b = none := fun b hb => by
    obtain ⟨p, hp, rfl⟩ := List.mem_map.mp hb
    exact nTc p hp
  obtain ⟨H, W⟩ := first_ex KX ha hT hi hl
  have ok : HOk P w H s.heap := W.hok ha hT hi hl
  have gl' := W.nsOf ha hT gl
  have notG : ∀ {b o}, s.heap.get? b = some o → (∀ es n, o.data ≠ .dict es n) → b ≠ mainGlobals := fun {b o} e n q => by
    obtain ⟨o', es, m, e', d, _⟩ := gl
    rw [q, e'] at e
    rw [Option.some.inj e] at d
    exact n _ _ d
  have M : L2.Mod K mg (hidT s.heap H) := by
    obtain ⟨ml, l1, l2⟩ := lim
    exact ⟨W.kin KX nT, gl', ⟨mb, W.nsOf ha hT bl, bb⟩, ⟨ml, W.nsOf ha hT l1, l2⟩⟩
  have TB : ∀ p ∈ cs, TabB (hidT s.heap H) mg p.1 p.2 := fun p hp => by
    obtain ⟨o, vs, f1, f2, f3, f4, f5, f6, f7, e, c1, c2, c3, rest⟩ := C p hp
    obtain ⟨m, om, b1, b2, b3, b4, b5, b6⟩ := bm
    have fo : H p.1 = none := W.free ha hT e (fun z => by rw [z] at c1; cases c1) (fun z => by rw [z] at c1; exact absurd (show Value.type "list" = Value.type "code" from c1) (by decide))
    have fm : H m = none := W.free ha hT b3 (fun z => by rw [z] at b4; cases b4) (fun z => by rw [z] at b4; exact absurd (show Value.type "list" = Value.type "module" from b4) (by decide))
    have mG : m ≠ mainGlobals := notG b3 fun es n z => by rw [b6] at z; cases z
    have mP : m ≠ p.2 := fun z => by
      rw [z, hTc p hp] at b3
      rw [← Option.some.inj b3] at b6
      cases b6
    have pG : p.2 ≠ mainGlobals := notG (hTc p hp) fun es n z => by cases z
    exact ⟨⟨o, vs, f1, f2, f3, f4, f5, f6, f7, hidT_get e fo, c1, c2, c3, rest⟩, ⟨m, om, b1, b2, mG, mP, hidT_get b3 fm, b4, b5, b6⟩, pG.symm⟩
  have env : Env0 P w K mg (hidT s.heap H) callerA [] s H :=
    { frames := rfl, mod := M, bs := fun b o e => of_hidT e, bsz := Nat.le_of_eq (hidT_size _ _), funs := trivial, frf := fun b hb => (by cases hb), hok := ok, bare := .of_eq gens }
  have run := (F _ M.kin M.glob TB).run callerA [] s H ⟨[.ref a], []⟩ [.ref a] [.ref a] (fun v _ => v = .bl true) hr hgd env (bind s (.ref a)) (.cons rfl .nil) (hsp H (fun p hp => W.tab _ (inT hp)) W.seq)
  refine codeAny_mono run fun r t end_ => ?_
  match r, end_ with
  | .ok (.ret u), ⟨v, H', os, bare, un, ok', rv, e⟩ =>
    subst e
    obtain rfl : u = Value.bool true := rv
    -- what is no table stays
    have stay : ∀ b o, b ∉ cs.map (·.2) → s.heap.get? b = some o → t.heap.get? b = some o := fun b o nb e => by
      cases q : H b with
      | none => exact un.keep b o e q (fun z => by cases z) (fun z => by cases z)
      | some u =>
        rcases W.only b u q with ⟨m, _⟩ | ⟨rfl, _, rfl⟩
        · exact absurd m nb
        · rw [ha] at e
          rw [← Option.some.inj e]
          exact (ok' b _ (un.frzs b _ _ q)).1
    have grow : ∀ b ∈ cs.map (·.2), ∃ more : Array Value, t.heap.get? b = some { cls := .none, data := .fields more } := fun b hb => by
      obtain ⟨more, z⟩ := un.tbls b #[] (W.tab b hb)
      exact ⟨_, ok' b _ z⟩
    refine ⟨rfl, ⟨fun b o e => ?_, fun b o e => ?_⟩, os, bare⟩ <;> by_cases m : b ∈ cs.map (·.2)
    · obtain ⟨p, hp, rfl⟩ := List.mem_map.mp m
      obtain ⟨more, z⟩ := grow _ m
      have eo : o = tabO := Option.some.inj (e.symm.trans (hTc p hp))
      subst eo
      refine .inr (.inl ⟨((C p hp).tab (hTc p hp)).isCodeTable, rfl, #[], more, rfl, ?_⟩)
      rw [Array.empty_append]
      exact z
    · exact .inl (stay b o m e)
    · obtain ⟨more, z⟩ := grow b m
      exact ⟨_, z⟩
    · exact ⟨o, stay b o m e⟩
  | .ok .next, z => exact False.elim z
  | .ok .brk, z => exact False.elim z
  | .ok .cont, z => exact False.elim z
  | .error e, z => exact False.elim z
theorem fnG_defC {P : Program} {w : World} {K : PySem.W.Frag} {mg : Str → Option Value} {base : Heap} {k : Nat} {x : Str} {ps N : List Str} {sp : Sp} {st : Stmt} {cc f : Addr} {fd : FuncData} (F : FnP K x st f fd) (hc : fd.code = .ref cc)
    (S : FnScope N ps (defScope st)) (len : ∀ vs H Q E, sp vs H Q E → vs.length = ps.length)
    (hbody : ∀ (f : Addr) (A : Around) (outer : List Env) (s : Shared) (H : Hp) (vs : List V) (Q : VK), Room k (A.deeper (envOfC x (defScope st) s.heap.objs.size f (.ref cc))) → A.guards = some [] → sp vs H Q E0 →
      ∃ t, PSs (cxOf CX0 P w K mg base N x (defScope st) f (.ref cc) A outer s H E0).nox (defBody st) t ∧ t { nx := fun _ H' => Q .non H', rt := Q } (L2.start N vs) H) : FnG P w K mg base (k + 1) f fd ps sp := by
  obtain ⟨oc, od, dV, kV, doc, pm, an, cdv, ct, osl, rfl, lk, hcd, _, _⟩ := F.ex
  obtain rfl : cdv = .ref cc := hc
  constructor
  · exact len
  · intro A outer s H args us vs Q hr hgd e0 hbt r hsp
    refine run_ofS lk hcd S hr e0 hbt r (len _ _ _ _ hsp) fun hr' => ?_
    obtain ⟨t, h, q⟩ := hbody f A outer s H vs Q hr' hgd hsp
    exact ⟨t, h.nox, q⟩
def LawAtG (l : PySem.W.OpenLaw) (w : World) (K : PySem.W.Frag) (k n : Nat) (x : Str) (mg : Str → Option Value) (fa : Addr) (h : Heap) : Prop :=
  ∃ (fd : FuncData) (cs : List (Addr × Addr)) (sp : Sp), (∀ p ∈ cs, h.get? p.2 = some { cls := .none, data := .fields #[] }) ∧ (∀ p ∈ cs, K.lookup p.2 = none) ∧ (∀ p ∈ cs, PySem.W.CodeHd h p.1 p.2) ∧ (∀ (s : Shared) (u : Value), BindsTo s fd ⟨[u], []⟩ [(x, u)]) ∧
    (∀ (H : Hp) (a : Addr) (ns : List Int), ns.length ≤ n → (∀ p ∈ cs, H p.2 = some (.tbl #[])) → SqL K H a (ns.map V.int) → sp [.ref a] H (fun v _ => v = .bl true) E0) ∧
    ∀ base : Heap, K.In base → base.Ns mainGlobals mg → (∀ p ∈ cs, TabB base mg p.1 p.2) → FnG l.prog w K mg base k fa fd [x] sp
theorem walk_ofG {l : PySem.W.OpenLaw} {n k : Nat} {q : Program} {loose : List Str} {XP : (Str → Option Value) → Heap → Prop} {YP : World → Heap → Prop} {d : DefRec} {x : Str}
    (hn : l.most = some n) (hn2 : n ≤ sizeLine) (hdf : d.params.defaults = []) (hr : Room k callerA) (hgd : callerA.guards = some [])
    (F : ∀ (w : World) (mg : Str → Option Value) (fa : Addr) (h : Heap), YP w h → h.Ns mainGlobals mg → mg d.name = some (.ref fa) → ∃ K : PySem.W.Frag, K.In h ∧ LawAtG l w K k n x mg fa h) :
    PySem.W.WalkO q loose XP YP l.row.toRowW d [] (fun f vs => PySem.call f vs) := by
  refine Att.attach_callB hn hdf fun w s₀ s₁ mg mb fa o pm cd doc a vs ns G Y ho hd hcd hmg hobj hints hlen hbits hg => ?_
  obtain ⟨K, KX, fd, cs, sp, hT, nT, C, hb, hsp, hF⟩ := F w mg fa _ Y G.T.g hmg
  exact law_callG KX G.T.g G.T.b G.T.builtins G.T.nolimit hg hT nT C G.T.bmain hobj hints (Nat.le_trans hlen hn2) hr hgd hF hb (fun H hH hS => hsp H a ns hlen hH hS)
end LamX
end
section
set_option maxRecDepth 100000
set_option maxHeartbeats 4000000
namespace L2
open PySem PySem.Spec PyProof.Rows
/-! ### heaps that grow -/
theorem same_new {H : Hp} {p : Addr} {o : HO} (h : H p = none) : Same H (upd H p o) := fun b u e => by
  rw [upd_ne (ne_of_none e h)]
  exact e
theorem same_mut {H H' : Hp} {p : Addr} {o : HO} (e : Same H H') (h : H p = none) : Same H (upd H' p o) := fun b u hb => by
  rw [upd_ne (ne_of_none hb h)]
  exact e b u hb
theorem Same.tup {K : PySem.W.Frag} {H H' : Hp} {a : Addr} {xs : List V} (e : Same H H') (h : SqT K H a xs) : SqT K H' a xs := by
  rcases h with (h | ⟨o, h⟩) | h
  · exact .inl (.inl (e _ _ h))
  · exact .inl (.inr ⟨o, e _ _ h⟩)
  · exact .inr h
/-- a new object: the heap behind it as a letter -/
theorem newly {H : Hp} {o : HO} {Q : Addr → Hp → Prop} (h : ∀ p H', H p = none → Same H H' → H' p = some o → (∀ b, b ≠ p → H' b = H b) → Q p H') : ∀ p, H p = none → Q p (upd H p o) :=
  fun p hp => h p _ hp (same_new hp) upd_same fun b hb => upd_ne hb
/-- all but what stands at a is as it was -/
def But (a : Addr) (H H' : Hp) : Prop := ∀ b o, H b = some o → b ≠ a → H' b = some o
theorem But.refl (a : Addr) (H : Hp) : But a H H := fun _ _ h _ => h
theorem But.of {a : Addr} {H H' : Hp} (e : Same H H') : But a H H' := fun b o h _ => e b o h
theorem But.trans {a : Addr} {H H1 H2 : Hp} (e : But a H H1) (f : But a H1 H2) : But a H H2 := fun b o h n => f b o (e b o h n) n
theorem But.upd {a : Addr} {H H' : Hp} {o : HO} (e : But a H H') : But a H (upd H' a o) := fun b u h n => by
  rw [upd_ne n]
  exact e b u h n
theorem But.mut {a p : Addr} {H H' : Hp} {o : HO} (e : But a H H') (h : H p = none) : But a H (L2.upd H' p o) := fun b u hb n => by
  rw [upd_ne (ne_of_none hb h)]
  exact e b u hb n
theorem But.free {a : Addr} {H H' : Hp} (e : But a H H') (ha : H' a ≠ none) {l : Addr} (h : H' l = none) : H l = none := by
  cases q : H l with
  | none => rfl
  | some o =>
    by_cases hl : l = a
    · rw [hl] at h
      exact absurd h ha
    · rw [e l o q hl] at h
      cases h
theorem lst_ne {H : Hp} {a : Addr} {o : HO} {K : PySem.W.Frag} (x : H a = some o) : H a ≠ none := by rw [x]; exact fun z => by cases z
/-! ### an own exception raised -/
def spInit (C : Addr) (f : Str) : Sp := fun vs H Q _ => ∃ (a : Addr) (v : V), vs = [.ref a, v] ∧ H a = some (exo a C none) ∧
  ∀ dx, H dx = none → dx ≠ a → Q .non (upd (upd H dx (exd dx [(f, v)])) a (exo a C (some dx)))
theorem mko {C : Addr} {f : Str} {v : V} {H : Hp} {Q : XK} (h : ∀ d, H d = none → Q (.ref C) (some d) (upd H d (.xd [(f, v)]))) : ([v] : List V).length ≤ 1000 ∧ ∀ a, H a = none → spInit C f (.ref a :: ([v] ++ [])) (upd H a (exo a C none))
    (fun u H2 => u = .non ∧ ∃ (d : Addr) (fs : List (Str × V)), H2 a = some (exo a C (some d)) ∧ H2 d = some (exd d fs) ∧ H d = none ∧ Q (.ref C) (some d) (upd (del H2 a) d (.xd fs))) (fun _ _ _ => False) := by
  refine ⟨by show 1 ≤ 1000; decide, fun a ha => ⟨a, v, rfl, upd_same, fun dx hd hne => ⟨rfl, dx, [(f, v)], upd_same, by rw [upd_ne hne, upd_same], ?_, ?_⟩⟩⟩
  · rw [upd_ne hne] at hd
    exact hd
  · have hd' : H dx = none := by rw [upd_ne hne] at hd; exact hd
    have e : upd (del (upd (upd (upd H a (exo a C none)) dx (exd dx [(f, v)])) a (exo a C (some dx))) a) dx (.xd [(f, v)]) = upd H dx (.xd [(f, v)]) := by
      funext b
      by_cases hb : b = dx
      · rw [hb, upd_same, upd_same]
      · rw [upd_ne hb, upd_ne hb]
        by_cases hba : b = a
        · rw [hba, del_same, ha]
        · rw [del_ne hba, upd_ne hba, upd_ne hb, upd_ne hba]
    rw [e]
    exact h dx hd'
/-- E is told of an error of the class at C whose field f is v -/
def Rz (E : XK) (H : Hp) (C : Addr) (f : Str) (v : V) : Prop := ∀ d H', Same H H' → H' d = some (.xd [(f, v)]) → E (.ref C) (some d) H'
theorem Rz.at {E : XK} {H H1 : Hp} {C : Addr} {f : Str} {v : V} (r : Rz E H C f v) (e : Same H H1) : ∀ d, H1 d = none → E (.ref C) (some d) (upd H1 d (.xd [(f, v)])) := fun d hd => r d _ (e.trans (same_new hd)) upd_same
/-! ### statement by statement -/
theorem nxE {t : St → Hp → Prop} {r : VK} {b c : St → Hp → Prop} {σ : St} {H : Hp} (h : t σ H) : Ends.nx ⟨t, r, b, c⟩ σ H := h
/-- x = e, then the rest -/
theorem st_let {te : TE} {i : Nat} {t2 : TS} {D : Ends} {σ : St} {H : Hp} (PV : V → Hp → Prop) (h : ∀ R : VK, (∀ v H', PV v H' → R v H') → te σ H R) (q : ∀ v H', PV v H' → t2 D (σ.set i (some v)) H') : tSeq (tAsg te (gName i)) t2 D σ H := h _ q
/-! ### numbers -/
theorem ints_get {ns : List Int} {i : Nat} {x : V} (h : (ns.map V.int)[i]? = some x) : ∃ z, ns[i]? = some z ∧ x = V.int z := by
  rw [List.getElem?_map] at h
  cases e : ns[i]? with
  | none => rw [e] at h; cases h
  | some z => rw [e] at h; exact ⟨z, rfl, (Option.some.inj h).symm⟩
theorem ints_at {ns : List Int} {i : Nat} {z : Int} (h : ns[i]? = some z) : (ns.map V.int)[i]? = some (.int z) := by rw [List.getElem?_map, h]; rfl
theorem ints_len (ns : List Int) : (ns.map V.int).length = ns.length := List.length_map _
/-- an item by an int -/
theorem atI_int {α : Type} {xs : List α} {z : Int} {v : α} (h0 : 0 ≤ z) (h : xs[z.toNat]? = some v) : atI xs z = some v := by
  have e : z = ((z.toNat : Nat) : Int) := by omega
  rw [e]
  exact atI_nat h
theorem line_of {n : Nat} (h : n ≤ 100000) : n ≤ sizeLine := Nat.le_trans h (by decide)
theorem line_lt {n : Nat} (h : n < 100000) : n < sizeLine := Nat.lt_of_lt_of_le h (by decide)
end L2
end
section
set_option maxRecDepth 100000
set_option maxHeartbeats 4000000
namespace L2
open PySem PySem.Spec PyProof.Rows
/-! ### comprehensions by what is made so far -/
section
variable {K : PySem.W.Frag} {a D : Addr} {xs : List V} {g : TG} {tt : TT} {te : TE} {vs : List Nat} {σ : St} {H1 : Hp} {Q : Hp → Prop}
theorem lc_acc (hD : H1 D = none) (hS : SqL K H1 a xs) (hz : xs.length < 100000) (Acc : Nat → List V → Hp → Prop) (h0 : ∀ H', Same H1 H' → Acc 0 [] H')
    (hs : ∀ i x acc H' (N : V → Hp → Prop) (N0 : Hp → Prop), xs[i]? = some x → Same H1 H' → H' D = some (.lst acc) → Acc i acc H' →
      (∀ y H4, Same H' H4 → (∀ H5, But D H4 H5 → H5 D = some (.lst (acc ++ [y])) → Acc (i + 1) (acc ++ [y]) H5) → N y H4) → (∀ H3, Same H' H3 → Acc (i + 1) acc H3 → N0 H3) →
      g x (wipe σ vs) H' fun σ2 H2 => wipe σ2 vs = wipe σ vs ∧ tt σ2 H2 fun b H3 => if b = true then te σ2 H3 N else N0 H3)
    (hd : ∀ acc H', Same H1 H' → H' D = some (.lst acc) → acc.length ≤ xs.length → Acc xs.length acc H' → Q H') :
    ∃ W : Nat → Nat → Hp → Prop, (∃ m, W 0 m (upd H1 D (.lst []))) ∧ ∀ i m H, W i m H →
      ((Itl K a).stop i H ∧ Q H) ∨ ((Itl K a).go i H ∧ ∃ Nx : Hp → Prop, (∀ H', Nx H' → ∃ m', m' < m ∧ W (i + 1) m' H') ∧ ∀ x H', (Itl K a).yld i H x H' → g x (wipe σ vs) H' fun σ2 H2 => wipe σ2 vs = wipe σ vs ∧ tt σ2 H2 fun b H3 =>
        if b = true then te σ2 H3 fun y H4 => ∃ acc, H4 D = some (.lst acc) ∧ acc.length < sizeLine ∧ Nx (upd H4 D (.lst (acc ++ [y]))) else Nx H3) := by
  refine lc_list (K := K) (a := a) (xs := xs) (fun i H' => Same H1 H' ∧ ∃ acc, H' D = some (.lst acc) ∧ acc.length ≤ i ∧ Acc i acc H') ⟨same_new hD, [], upd_same, Nat.le_refl _, h0 _ (same_new hD)⟩ (fun i H' _ h => h.1.seq hS) ?_ ?_
  · rintro i x H' hx ⟨e, acc, hacc, hl, ha⟩
    have hi : i < xs.length := (List.getElem?_eq_some_iff.mp hx).1
    refine hs i x acc H' _ _ hx e hacc ha (fun y H4 s4 a4 => ?_) (fun H3 s3 a3 => ?_)
    · exact ⟨acc, s4 _ _ hacc, line_lt (by omega), same_mut (e.trans s4) hD, acc ++ [y], upd_same, by rw [List.length_append]; exact Nat.succ_le_succ hl, a4 _ (fun b o hb n => by rw [upd_ne n]; exact hb) upd_same⟩
    · exact ⟨e.trans s3, acc, s3 _ _ hacc, Nat.le_succ_of_le hl, a3⟩
  · rintro H' ⟨e, acc, hacc, hl, ha⟩
    exact hd acc H' e hacc hl ha
theorem lc_accR {lo : Int} {n : Nat} (hD : H1 D = none) (hz : n < 100000) (Acc : Nat → List V → Hp → Prop) (h0 : ∀ H', Same H1 H' → Acc 0 [] H')
    (hs : ∀ i acc H' (N : V → Hp → Prop) (N0 : Hp → Prop), i < n → Same H1 H' → H' D = some (.lst acc) → Acc i acc H' →
      (∀ y H4, Same H' H4 → (∀ H5, But D H4 H5 → H5 D = some (.lst (acc ++ [y])) → Acc (i + 1) (acc ++ [y]) H5) → N y H4) → (∀ H3, Same H' H3 → Acc (i + 1) acc H3 → N0 H3) →
      g (.int (lo + i)) (wipe σ vs) H' fun σ2 H2 => wipe σ2 vs = wipe σ vs ∧ tt σ2 H2 fun b H3 => if b = true then te σ2 H3 N else N0 H3)
    (hd : ∀ acc H', Same H1 H' → H' D = some (.lst acc) → acc.length ≤ n → Acc n acc H' → Q H') :
    ∃ W : Nat → Nat → Hp → Prop, (∃ m, W 0 m (upd H1 D (.lst []))) ∧ ∀ i m H, W i m H →
      ((Itr lo n).stop i H ∧ Q H) ∨ ((Itr lo n).go i H ∧ ∃ Nx : Hp → Prop, (∀ H', Nx H' → ∃ m', m' < m ∧ W (i + 1) m' H') ∧ ∀ x H', (Itr lo n).yld i H x H' → g x (wipe σ vs) H' fun σ2 H2 => wipe σ2 vs = wipe σ vs ∧ tt σ2 H2 fun b H3 =>
        if b = true then te σ2 H3 fun y H4 => ∃ acc, H4 D = some (.lst acc) ∧ acc.length < sizeLine ∧ Nx (upd H4 D (.lst (acc ++ [y]))) else Nx H3) := by
  refine lc_range (lo := lo) (n := n) (fun i H' => Same H1 H' ∧ ∃ acc, H' D = some (.lst acc) ∧ acc.length ≤ i ∧ Acc i acc H') ⟨same_new hD, [], upd_same, Nat.le_refl _, h0 _ (same_new hD)⟩ ?_ ?_
  · rintro i H' hi ⟨e, acc, hacc, hl, ha⟩
    refine hs i acc H' _ _ hi e hacc ha (fun y H4 s4 a4 => ?_) (fun H3 s3 a3 => ?_)
    · exact ⟨acc, s4 _ _ hacc, line_lt (by omega), same_mut (e.trans s4) hD, acc ++ [y], upd_same, by rw [List.length_append]; exact Nat.succ_le_succ hl, a4 _ (fun b o hb n => by rw [upd_ne n]; exact hb) upd_same⟩
    · exact ⟨e.trans s3, acc, s3 _ _ hacc, Nat.le_succ_of_le hl, a3⟩
  · rintro H' ⟨e, acc, hacc, hl, ha⟩
    exact hd acc H' e hacc hl ha
end
theorem cutV_map {α : Type} (f : α → V) (ns : List α) (lo hi : Option Int) : ∃ ms : List α, cutV (ns.map f) lo hi = ms.map f ∧ ms = (ns.drop (HT.sIx ns.length 0 lo)).take (HT.sIx ns.length ns.length hi - HT.sIx ns.length 0 lo) := by
  refine ⟨_, ?_, rfl⟩
  unfold cutV
  rw [List.length_map, List.map_take, List.map_drop]
end L2
end
section
set_option maxRecDepth 100000
set_option maxHeartbeats 4000000
namespace L2
open PySem PySem.Spec PyProof.Rows
/-- for i, x in enumerate(list, start = k) -/
theorem for_enumS {K : PySem.W.Frag} {a : Addr} {xs : List V} {k : Int} {g : TG} {tb : TS} {D : Ends} {σ : St} {H : Hp} (Pv : Nat → St → Hp → Prop) (h0 : Pv 0 σ H) (hl : ∀ i σ H, i ≤ xs.length → Pv i σ H → SqL K H a xs)
    (hs : ∀ i x σ H T, xs[i]? = some x → Pv i σ H → H T = none → g (.ref T) σ (upd H T (.tup [.int (k + (i : Nat)), x])) fun σ2 H2 => tb { D with nx := Pv (i + 1), ct := Pv (i + 1), bk := D.nx } σ2 H2) (hd : ∀ σ H, Pv xs.length σ H → D.nx σ H) :
    ∃ W : Nat → Nat → St → Hp → Prop, (∃ m, W 0 m σ H) ∧ ∀ i m σ H, W i m σ H →
      ((IteS K a k).stop i H ∧ D.nx σ H) ∨ ((IteS K a k).go i H ∧ ∃ N : St → Hp → Prop, (∀ σ' H', N σ' H' → ∃ m', m' < m ∧ W (i + 1) m' σ' H') ∧ ∀ x H', (IteS K a k).yld i H x H' → g x σ H' fun σ2 H2 => tb { D with nx := N, ct := N, bk := D.nx } σ2 H2) := by
  refine ⟨fun i m σ H => m = xs.length - i ∧ i ≤ xs.length ∧ Pv i σ H, ⟨_, rfl, Nat.zero_le _, h0⟩, fun i m σ H w => ?_⟩
  obtain ⟨rfl, hi, p⟩ := w
  have q := hl i σ H hi p
  rcases Nat.lt_or_ge i xs.length with hlt | hge
  · refine .inr ⟨⟨xs, _, q, List.getElem?_eq_getElem hlt⟩, Pv (i + 1), fun σ' H' p' => ⟨xs.length - (i + 1), by omega, rfl, hlt, p'⟩, ?_⟩
    rintro x H' ⟨T, y, rfl, hT, rfl, hy⟩
    exact hs i y σ H T (hy xs q) p hT
  · have e : i = xs.length := by omega
    subst e
    exact .inl ⟨⟨xs, q, Nat.le_refl _⟩, hd σ H p⟩
theorem drop_get {α : Type} {l : List α} {i : Nat} {x : α} (h : l[i]? = some x) : l.drop i = x :: l.drop (i + 1) := by
  obtain ⟨hi, e⟩ := List.getElem?_eq_some_iff.mp h
  rw [List.drop_eq_getElem_cons hi, e]
theorem take_get {α : Type} {l : List α} {i : Nat} {x : α} (h : l[i]? = some x) : l.take (i + 1) = l.take i ++ [x] := by
  rw [List.take_succ, h]; rfl
/-! ### a pair of ints, list or tuple -/
def PairR (K : PySem.W.Frag) (H : Hp) (x : V) (c : Int × Int) : Prop := ∃ t, x = .ref t ∧ (SqT K H t [.int c.1, .int c.2] ∨ SqL K H t [.int c.1, .int c.2])
def PairsR (K : PySem.W.Frag) (H : Hp) : List V → List (Int × Int) → Prop := Paired (PairR K H)
theorem PairR.same {K : PySem.W.Frag} {H H' : Hp} (e : Same H H') {x : V} {c : Int × Int} (h : PairR K H x c) : PairR K H' x c := by
  obtain ⟨t, rfl, h | h⟩ := h
  · exact ⟨t, rfl, .inl (e.tup h)⟩
  · exact ⟨t, rfl, .inr (e.seq h)⟩
theorem PairsR.same {K : PySem.W.Frag} {H H' : Hp} (e : Same H H') {xs : List V} {cs : List (Int × Int)} (h : PairsR K H xs cs) : PairsR K H' xs cs := Paired.mapP h fun _ _ z => z.same e
theorem PairsR.get {K : PySem.W.Frag} {H : Hp} {xs : List V} {cs : List (Int × Int)} (h : PairsR K H xs cs) {i : Nat} {x : V} (hx : xs[i]? = some x) : ∃ c, cs[i]? = some c ∧ PairR K H x c := paired_get h hx
theorem PairsR.len {K : PySem.W.Frag} {H : Hp} {xs : List V} {cs : List (Int × Int)} (h : PairsR K H xs cs) : xs.length = cs.length := Paired.length h
/-- x[0], x[1] of such -/
theorem PairR.ix0 {K : PySem.W.Frag} {H : Hp} {x : V} {c : Int × Int} (h : PairR K H x c) {Q : VK} (q : Q (.int c.1) H) : rIx K x (.int 0) H Q := by
  obtain ⟨t, rfl, h | h⟩ := h
  · exact .inr (.inl ⟨t, _, 0, _, rfl, rfl, h, rfl, q⟩)
  · exact .inl ⟨t, _, 0, _, rfl, rfl, h, rfl, q⟩
theorem PairR.ix1 {K : PySem.W.Frag} {H : Hp} {x : V} {c : Int × Int} (h : PairR K H x c) {Q : VK} (q : Q (.int c.2) H) : rIx K x (.int 1) H Q := by
  obtain ⟨t, rfl, h | h⟩ := h
  · exact .inr (.inl ⟨t, _, 1, _, rfl, rfl, h, rfl, q⟩)
  · exact .inl ⟨t, _, 1, _, rfl, rfl, h, rfl, q⟩
/-- the slots behind a, b = such -/
theorem PairR.unpack {K : PySem.W.Frag} {H : Hp} {x : V} {c : Int × Int} (h : PairR K H x c) {σ : St} {i j : Nat} {Q : St → Hp → Prop} (q : Q ((σ.set i (some (.int c.1))).set j (some (.int c.2))) H) : gSeq K 2 (gCons (gName i) (gCons (gName j) gNil)) x σ H Q := by
  obtain ⟨t, rfl, h | h⟩ := h
  · exact .inl ⟨t, _, rfl, h, rfl, _, _, rfl, _, _, rfl, rfl, q⟩
  · exact .inr ⟨t, _, rfl, h, rfl, _, _, rfl, _, _, rfl, rfl, q⟩
end L2
namespace L2
open PySem PySem.Spec PyProof.Rows
/-! ### rules with the written part named (within comprehensions) -/
section
variable {X : Cx} {K : PySem.W.Frag}
theorem ix_seqK (h : X.K = K) : IxR X (rIx K) := h ▸ ix_seq
theorem ix_listK (h : X.K = K) : IxR X (rIxL K) := h ▸ ix_list
theorem ix_tupK (h : X.K = K) : IxR X (rIxT K) := h ▸ ix_tup
theorem get_listK (h : X.K = K) : PGet X (rIxL K) := h ▸ get_list
theorem len_seqK (h : X.K = K) : CallR X (.builtin "len") (fun xs H Q => ∃ p ys, xs = [.ref p] ∧ (SqL K H p ys ∨ SqT K H p ys) ∧ Q (.int ys.length) H) := h ▸ call_len_seq
theorem list_ofK (h : X.K = K) : CallR X (.type "list") (fun xs H Q => ∃ p ys, xs = [.ref p] ∧ (SqL K H p ys ∨ SqT K H p ys) ∧ ∀ l, H l = none → Q (.ref l) (upd H l (.lst ys))) := h ▸ call_list_of
theorem anyK (h : X.K = K) (hc : X.calm = true) : CallR X (.builtin "any") (rAny K) := h ▸ cr_any hc
theorem sumK (h : X.K = K) (hc : X.calm = true) : CallR X (.builtin "sum") (rSum K) := h ▸ cr_sum hc
theorem maxK (h : X.K = K) (hc : X.calm = true) : CallR X (.builtin "max") (rMax K) := h ▸ cr_max hc
theorem minK (h : X.K = K) (hc : X.calm = true) : CallR X (.builtin "min") (rMin K) := h ▸ cr_min hc
theorem sl_listK (h : X.K = K) : SlR X (rSlL K) := h ▸ sl_list
theorem eqDK (h : X.K = K) (hu : X.A.units + 64 < cLine) : OpR X (compareOp .Eq) (rEqD K) := h ▸ op_eqD hu
theorem neDK (h : X.K = K) (hu : X.A.units + 64 < cLine) : OpR X (compareOp .NotEq) (rNeD K) := h ▸ op_neD hu
theorem isiK (h : X.K = K) : CallR X (.builtin "isinstance") (rIsi K) := h ▸ call_isi
theorem isiTK (h : X.K = K) : CallR X (.builtin "isinstance") (rIsiT K) := h ▸ call_isiT
theorem pg_tupK {pos : Pos} {es : List Expr} {k : Nat} {t : TGs} {n : Nat} (e : X.K = K) (hc : X.calm = true) (h : PGs X es t)
    (hn : (assignEach es X.env).length = n := by rfl) (hst : (assignEach es X.env).findIdx? (·.1) = none := by rfl) : PG X (.Tuple es k pos) (gTup K n t) := e ▸ pg_tup hc h hn hst
theorem pg_seqK {pos : Pos} {es : List Expr} {k : Nat} {t : TGs} {n : Nat} (e : X.K = K) (hc : X.calm = true) (h : PGs X es t)
    (hn : (assignEach es X.env).length = n := by rfl) (hst : (assignEach es X.env).findIdx? (·.1) = none := by rfl) : PG X (.Tuple es k pos) (gSeq K n t) := e ▸ pg_seq hc h hn hst
theorem pi_listK {tg e : Expr} {te : TE} (h : X.K = K) (he : PE X e te) : PI X tg e (iList K te) := h ▸ pi_list he
end
end L2
namespace L2
open PySem PySem.Spec PyProof.Rows
theorem for_upto {lo : Int} {n L : Nat} {g : TG} {tb : TS} {D : Ends} {σ : St} {H : Hp} (hn : n = L) (Pv : Nat → St → Hp → Prop) (h0 : Pv 0 σ H)
    (hs : ∀ i σ H, i < L → Pv i σ H → g (.int (lo + i)) σ H fun σ2 H2 => tb { D with nx := Pv (i + 1), ct := Pv (i + 1), bk := D.nx } σ2 H2) (hd : ∀ σ H, Pv L σ H → D.nx σ H) :
    ∃ W : Nat → Nat → St → Hp → Prop, (∃ m, W 0 m σ H) ∧ ∀ i m σ H, W i m σ H →
      ((Itr lo n).stop i H ∧ D.nx σ H) ∨ ((Itr lo n).go i H ∧ ∃ N : St → Hp → Prop, (∀ σ' H', N σ' H' → ∃ m', m' < m ∧ W (i + 1) m' σ' H') ∧ ∀ x H', (Itr lo n).yld i H x H' → g x σ H' fun σ2 H2 => tb { D with nx := N, ct := N, bk := D.nx } σ2 H2) := by
  subst hn
  exact for_range Pv h0 hs hd
theorem ints_ix {ns : List Int} {i : Nat} (h : i < ns.length) : ∃ z, ns[i]? = some z := ⟨_, List.getElem?_eq_getElem h⟩
end L2
end
section
set_option maxRecDepth 100000
set_option maxHeartbeats 4000000
namespace L2
open PySem PySem.Spec PyProof.Rows
theorem cut_take (xs : List V) {z : Int} {k : Nat} (h : z = (k : Int)) : cutV xs none (some z) = xs.take k := by
  subst h
  unfold cutV
  rw [HT.sIx_nat, HT.sIx_none, List.drop_zero, Nat.sub_zero]
  rcases Nat.le_total k xs.length with h | h
  · rw [Nat.min_eq_left h]
  · rw [Nat.min_eq_right h, List.take_length, List.take_of_length_le h]
theorem cut_drop (xs : List V) {z : Int} {k : Nat} (h : z = (k : Int)) : cutV xs (some z) none = xs.drop k := by
  subst h
  unfold cutV
  rw [HT.sIx_nat, HT.sIx_none]
  rcases Nat.le_total k xs.length with h | h
  · rw [Nat.min_eq_left h, List.take_of_length_le]
    rw [List.length_drop]; omega
  · rw [Nat.min_eq_right h, List.drop_length, List.drop_of_length_le h]
    exact List.take_nil
/-- x[i:] of a list, as slicing of what stands there -/
theorem map_take {α : Type} (f : α → V) (ns : List α) (k : Nat) : (ns.map f).take k = (ns.take k).map f := List.map_take.symm
theorem map_drop {α : Type} (f : α → V) (ns : List α) (k : Nat) : (ns.map f).drop k = (ns.drop k).map f := List.map_drop.symm
theorem max_eq {ns : List Int} {m m' : Int} (h : m ∈ ns) (hm : ∀ y ∈ ns, y ≤ m) (h' : m' ∈ ns) (hm' : ∀ y ∈ ns, y ≤ m') : m = m' := Int.le_antisymm (hm' _ h) (hm _ h')
theorem PairR.unpackN {K : PySem.W.Frag} {H : Hp} {x : V} {c : Int × Int} (h : PairR K H x c) {σ : St} {i j n : Nat} (hn : n = 2) {Q : St → Hp → Prop} (q : Q ((σ.set i (some (.int c.1))).set j (some (.int c.2))) H) : gSeq K n (gCons (gName i) (gCons (gName j) gNil)) x σ H Q := by
  subst hn
  exact h.unpack q
section
variable {K : PySem.W.Frag} {D : Addr} {g : TG} {tt : TT} {te : TE} {vs : List Nat} {σ : St} {H1 : Hp} {Q : Hp → Prop}
theorem lc_upto {lo : Int} {n L : Nat} (hn : n = L) (hD : H1 D = none) (hz : L < 100000) (Acc : Nat → List V → Hp → Prop) (h0 : ∀ H', Same H1 H' → Acc 0 [] H')
    (hs : ∀ i acc H' (N : V → Hp → Prop) (N0 : Hp → Prop), i < L → Same H1 H' → H' D = some (.lst acc) → Acc i acc H' →
      (∀ y H4, Same H' H4 → (∀ H5, But D H4 H5 → H5 D = some (.lst (acc ++ [y])) → Acc (i + 1) (acc ++ [y]) H5) → N y H4) → (∀ H3, Same H' H3 → Acc (i + 1) acc H3 → N0 H3) →
      g (.int (lo + i)) (wipe σ vs) H' fun σ2 H2 => wipe σ2 vs = wipe σ vs ∧ tt σ2 H2 fun b H3 => if b = true then te σ2 H3 N else N0 H3)
    (hd : ∀ acc H', Same H1 H' → H' D = some (.lst acc) → acc.length ≤ L → Acc L acc H' → Q H') :
    ∃ W : Nat → Nat → Hp → Prop, (∃ m, W 0 m (upd H1 D (.lst []))) ∧ ∀ i m H, W i m H →
      ((Itr lo n).stop i H ∧ Q H) ∨ ((Itr lo n).go i H ∧ ∃ Nx : Hp → Prop, (∀ H', Nx H' → ∃ m', m' < m ∧ W (i + 1) m' H') ∧ ∀ x H', (Itr lo n).yld i H x H' → g x (wipe σ vs) H' fun σ2 H2 => wipe σ2 vs = wipe σ vs ∧ tt σ2 H2 fun b H3 =>
        if b = true then te σ2 H3 fun y H4 => ∃ acc, H4 D = some (.lst acc) ∧ acc.length < sizeLine ∧ Nx (upd H4 D (.lst (acc ++ [y]))) else Nx H3) := by
  subst hn
  exact lc_accR hD hz Acc h0 hs hd
end
/-! ### what stands elsewhere than at a -/
section
variable {K : PySem.W.Frag} {sa : Addr} {H H' : Hp}
theorem But.seq (e : But sa H H') {a : Addr} {xs : List V} (n : a ≠ sa) (h : SqL K H a xs) : SqL K H' a xs := by
  rcases h with (h | ⟨o, h⟩) | h
  · exact .inl (.inl (e _ _ h n))
  · exact .inl (.inr ⟨o, e _ _ h n⟩)
  · exact .inr h
theorem But.tup (e : But sa H H') {a : Addr} {xs : List V} (n : a ≠ sa) (h : SqT K H a xs) : SqT K H' a xs := by
  rcases h with (h | ⟨o, h⟩) | h
  · exact .inl (.inl (e _ _ h n))
  · exact .inl (.inr ⟨o, e _ _ h n⟩)
  · exact .inr h
theorem Same.but (e : Same H H') : But sa H H' := But.of e
theorem PairR.but (e : But sa H H') {x : V} {c : Int × Int} (n : x ≠ .ref sa) (h : PairR K H x c) : PairR K H' x c := by
  obtain ⟨t, rfl, h | h⟩ := h
  · exact ⟨t, rfl, .inl (e.tup (fun z => n (by rw [z])) h)⟩
  · exact ⟨t, rfl, .inr (e.seq (fun z => n (by rw [z])) h)⟩
/-- such, none of them at D -/
def PairD (K : PySem.W.Frag) (D : Addr) (H : Hp) (x : V) (c : Int × Int) : Prop := PairR K H x c ∧ x ≠ .ref D
def PairsD (K : PySem.W.Frag) (D : Addr) (H : Hp) : List V → List (Int × Int) → Prop := Paired (PairD K D H)
theorem PairsD.but {D : Addr} (e : But D H H') {xs : List V} {cs : List (Int × Int)} (h : PairsD K D H xs cs) : PairsD K D H' xs cs := Paired.mapP h fun _ _ z => ⟨z.1.but e z.2, z.2⟩
theorem PairsD.same {D : Addr} (e : Same H H') {xs : List V} {cs : List (Int × Int)} (h : PairsD K D H xs cs) : PairsD K D H' xs cs := Paired.mapP h fun _ _ z => ⟨z.1.same e, z.2⟩
theorem PairsD.prs {D : Addr} {xs : List V} {cs : List (Int × Int)} (h : PairsD K D H xs cs) : PairsR K H xs cs := Paired.mapP h fun _ _ z => z.1
theorem paired_snoc {α β : Type} {R : α → β → Prop} {xs : List α} {ys : List β} {x : α} {y : β} (h : Paired R xs ys) (r : R x y) : Paired R (xs ++ [x]) (ys ++ [y]) := by
  induction h with
  | nil => exact .cons r .nil
  | cons a _ ih => exact .cons a ih
theorem PairsR.but (e : But sa H H') {xs : List V} {cs : List (Int × Int)} (n : ∀ x ∈ xs, x ≠ .ref sa) (h : PairsR K H xs cs) : PairsR K H' xs cs := by
  induction h with
  | nil => exact .nil
  | cons a _ ih => exact .cons (a.but e (n _ List.mem_cons_self)) (ih fun x hx => n x (List.mem_cons_of_mem _ hx))
theorem paired_app {α β : Type} {R : α → β → Prop} {xs xs' : List α} {ys ys' : List β} (h : Paired R xs ys) (h' : Paired R xs' ys') : Paired R (xs ++ xs') (ys ++ ys') := by
  induction h with
  | nil => exact h'
  | cons a _ ih => exact .cons a ih
end
section
variable {K : PySem.W.Frag} {a D sa : Addr} {xs : List V} {g : TG} {tt : TT} {te : TE} {vs : List Nat} {σ : St} {H1 : Hp} {Q : Hp → Prop}
/-- a comprehension whose element changes what stands at sa -/
theorem lc_accB (hD : H1 D = none) (hsa : H1 sa ≠ none) (ha : a ≠ sa) (hS : SqL K H1 a xs) (hz : xs.length < 100000) (Acc : Nat → List V → Hp → Prop) (h0 : ∀ H', Same H1 H' → Acc 0 [] H')
    (hs : ∀ i x acc H' (N : V → Hp → Prop) (N0 : Hp → Prop), xs[i]? = some x → But sa H1 H' → H' D = some (.lst acc) → Acc i acc H' →
      (∀ y H4, But sa H' H4 → (∀ H5, But D H4 H5 → H5 D = some (.lst (acc ++ [y])) → Acc (i + 1) (acc ++ [y]) H5) → N y H4) → (∀ H3, But sa H' H3 → Acc (i + 1) acc H3 → N0 H3) →
      g x (wipe σ vs) H' fun σ2 H2 => wipe σ2 vs = wipe σ vs ∧ tt σ2 H2 fun b H3 => if b = true then te σ2 H3 N else N0 H3)
    (hd : ∀ acc H', But sa H1 H' → H' D = some (.lst acc) → acc.length ≤ xs.length → Acc xs.length acc H' → Q H') :
    ∃ W : Nat → Nat → Hp → Prop, (∃ m, W 0 m (upd H1 D (.lst []))) ∧ ∀ i m H, W i m H →
      ((Itl K a).stop i H ∧ Q H) ∨ ((Itl K a).go i H ∧ ∃ Nx : Hp → Prop, (∀ H', Nx H' → ∃ m', m' < m ∧ W (i + 1) m' H') ∧ ∀ x H', (Itl K a).yld i H x H' → g x (wipe σ vs) H' fun σ2 H2 => wipe σ2 vs = wipe σ vs ∧ tt σ2 H2 fun b H3 =>
        if b = true then te σ2 H3 fun y H4 => ∃ acc, H4 D = some (.lst acc) ∧ acc.length < sizeLine ∧ Nx (upd H4 D (.lst (acc ++ [y]))) else Nx H3) := by
  have hDs : D ≠ sa := fun z => hsa (z ▸ hD)
  refine lc_list (K := K) (a := a) (xs := xs) (fun i H' => But sa H1 H' ∧ ∃ acc, H' D = some (.lst acc) ∧ acc.length ≤ i ∧ Acc i acc H') ⟨But.of (same_new hD), [], upd_same, Nat.le_refl _, h0 _ (same_new hD)⟩ (fun i H' _ h => h.1.seq ha hS) ?_ ?_
  · rintro i x H' hx ⟨e, acc, hacc, hl, ha'⟩
    have hi : i < xs.length := (List.getElem?_eq_some_iff.mp hx).1
    refine hs i x acc H' _ _ hx e hacc ha' (fun y H4 s4 a4 => ?_) (fun H3 s3 a3 => ?_)
    · exact ⟨acc, s4 _ _ hacc hDs, line_lt (by omega), (e.trans s4).mut hD, acc ++ [y], upd_same, by rw [List.length_append]; exact Nat.succ_le_succ hl, a4 _ (fun b o hb n => by rw [upd_ne n]; exact hb) upd_same⟩
    · exact ⟨e.trans s3, acc, s3 _ _ hacc hDs, Nat.le_succ_of_le hl, a3⟩
  · rintro H' ⟨e, acc, hacc, hl, ha'⟩
    exact hd acc H' e hacc hl ha'
theorem lc_uptoB {lo : Int} {n L : Nat} (hn : n = L) (hD : H1 D = none) (hsa : H1 sa ≠ none) (hz : L < 100000) (Acc : Nat → List V → Hp → Prop) (h0 : ∀ H', Same H1 H' → Acc 0 [] H')
    (hs : ∀ i acc H' (N : V → Hp → Prop) (N0 : Hp → Prop), i < L → But sa H1 H' → H' D = some (.lst acc) → Acc i acc H' →
      (∀ y H4, But sa H' H4 → (∀ H5, But D H4 H5 → H5 D = some (.lst (acc ++ [y])) → Acc (i + 1) (acc ++ [y]) H5) → N y H4) → (∀ H3, But sa H' H3 → Acc (i + 1) acc H3 → N0 H3) →
      g (.int (lo + i)) (wipe σ vs) H' fun σ2 H2 => wipe σ2 vs = wipe σ vs ∧ tt σ2 H2 fun b H3 => if b = true then te σ2 H3 N else N0 H3)
    (hd : ∀ acc H', But sa H1 H' → H' D = some (.lst acc) → acc.length ≤ L → Acc L acc H' → Q H') :
    ∃ W : Nat → Nat → Hp → Prop, (∃ m, W 0 m (upd H1 D (.lst []))) ∧ ∀ i m H, W i m H →
      ((Itr lo n).stop i H ∧ Q H) ∨ ((Itr lo n).go i H ∧ ∃ Nx : Hp → Prop, (∀ H', Nx H' → ∃ m', m' < m ∧ W (i + 1) m' H') ∧ ∀ x H', (Itr lo n).yld i H x H' → g x (wipe σ vs) H' fun σ2 H2 => wipe σ2 vs = wipe σ vs ∧ tt σ2 H2 fun b H3 =>
        if b = true then te σ2 H3 fun y H4 => ∃ acc, H4 D = some (.lst acc) ∧ acc.length < sizeLine ∧ Nx (upd H4 D (.lst (acc ++ [y]))) else Nx H3) := by
  subst hn
  have hDs : D ≠ sa := fun z => hsa (z ▸ hD)
  refine lc_range (lo := lo) (n := n) (fun i H' => But sa H1 H' ∧ ∃ acc, H' D = some (.lst acc) ∧ acc.length ≤ i ∧ Acc i acc H') ⟨But.of (same_new hD), [], upd_same, Nat.le_refl _, h0 _ (same_new hD)⟩ ?_ ?_
  · rintro i H' hi ⟨e, acc, hacc, hl, ha'⟩
    refine hs i acc H' _ _ hi e hacc ha' (fun y H4 s4 a4 => ?_) (fun H3 s3 a3 => ?_)
    · exact ⟨acc, s4 _ _ hacc hDs, line_lt (by omega), (e.trans s4).mut hD, acc ++ [y], upd_same, by rw [List.length_append]; exact Nat.succ_le_succ hl, a4 _ (fun b o hb n => by rw [upd_ne n]; exact hb) upd_same⟩
    · exact ⟨e.trans s3, acc, s3 _ _ hacc hDs, Nat.le_succ_of_le hl, a3⟩
  · rintro H' ⟨e, acc, hacc, hl, ha'⟩
    exact hd acc H' e hacc hl ha'
end
theorem seq_via {t u : TS} {D : Ends} {σ : St} {H : Hp} (C : St → Hp → Prop) (h : ∀ U : St → Hp → Prop, (∀ σ' H', C σ' H' → U σ' H') → t { D with nx := U } σ H) (h2 : ∀ σ' H', C σ' H' → u D σ' H') : tSeq t u D σ H := h (u D) h2
section
variable {X : Cx} {K : PySem.W.Frag} {tg e : Expr} {w1 w2 : TI}
def iOr (w1 w2 : TI) : TI := fun σ H R => w1 σ H R ∨ w2 σ H R
theorem pi_or (h1 : PI X tg e w1) (h2 : PI X tg e w2) : PI X tg e (iOr w1 w2) := ⟨fun pins s σ H R I h => h.elim (h1.run pins s σ H R I) (h2.run pins s σ H R I)⟩
theorem pi_tupK {te : TE} (h : X.K = K) (he : PE X e te) : PI X tg e (iTup K te) := h ▸ pi_tup he
end
end L2
end
section
set_option maxRecDepth 100000
set_option maxHeartbeats 4000000
namespace L2
open PySem PySem.Spec PyProof.Rows
/-! ### plain data, compared with itself -/
theorem dpall_ints {K : PySem.W.Frag} {H : Hp} : ∀ ns : List Int, DpAll K H (ns.map V.int) (ns.map PyData.int)
  | [] => .nil
  | n :: t => .cons (.int n) (dpall_ints t)
theorem dp_ints {K : PySem.W.Frag} {H : Hp} {a : Addr} {ns : List Int} (h : SqL K H a (ns.map V.int)) : Dp K H (.ref a) (.list (ns.map PyData.int)) := .lst h (dpall_ints ns)
theorem canLay_of {d : PyData} (h : SeqAt.shaped d = true) : d.canLay0 = true := (Bool.and_eq_true_iff.mp h).1
theorem eqv_self {d : PyData} (h : SeqAt.shaped d = true) : PyData.eqv d d = true := SeqAt.eqv_refl d (canLay_of h)
theorem shaped_nums (ns : List Int) : SeqAt.shaped (.list (ns.map PyData.int)) = true := PySem.W.shaped_ints ns
end L2
end
section
set_option maxRecDepth 100000
set_option maxHeartbeats 4000000
namespace L2
open PySem PySem.Spec PyProof.Rows
/-! ### pairs of ints, each a list or a tuple, as data -/
abbrev G3 : Type := Bool × Int × Int
def dG (g : G3) : PyData := if g.1 = true then .list [.int g.2.1, .int g.2.2] else .tuple [.int g.2.1, .int g.2.2]
def datG (gs : List G3) : PyData := .list (gs.map dG)
def Sm (n : Int) : Prop := 0 ≤ n ∧ n < 4294967296
theorem sm_log {n : Int} (h : Sm n) : n.natAbs.log2 ≤ 32 := by
  obtain ⟨h0, h1⟩ := h
  by_cases z : n.natAbs = 0
  · rw [z]; decide
  · exact Nat.le_of_lt_succ ((Nat.log2_lt z).mpr (by omega))
theorem sm_short {n : Int} (h : Sm n) : ((PyData.int n).shown).length ≤ 13 := PyData.shown_int_le2 (by have := h.1; omega) (by have := h.2; omega)
theorem sm_show {n : Int} (h : Sm n) : (PyData.int n).showable = true := by
  have := sm_log h
  unfold PyData.showable
  exact decide_eq_true (by omega)
theorem sm_weight {n : Int} (h : Sm n) : (PyData.int n).weight ≤ 33 := by
  have := sm_log h
  unfold PyData.weight
  split <;> omega
structure GoodD (d : PyData) (dp wt : Nat) : Prop where
  show_ : d.showable = true
  dict : d.hasDict = false
  depth : d.depth ≤ dp
  lay : d.canLay0 = true
  weight : d.weight ≤ wt
  short : d.intsShort 13 = true
theorem good_int {n : Int} (h : Sm n) : GoodD (.int n) 0 33 := ⟨sm_show h, by unfold PyData.hasDict; rfl, by unfold PyData.depth; exact Nat.le_refl _, by unfold PyData.canLay0; rfl, sm_weight h, by unfold PyData.intsShort; exact decide_eq_true (sm_short h)⟩
structure GoodA (ds : List PyData) (dp wt : Nat) : Prop where
  show_ : PyData.showableAll ds = true
  dict : PyData.hasDictAll ds = false
  depth : PyData.depthAll ds ≤ dp
  lay : PyData.canLayAll0 ds = true
  weight : PyData.weightAll ds ≤ wt * ds.length
  short : PyData.intsShortAll 13 ds = true
theorem good_all {dp wt : Nat} : ∀ ds : List PyData, (∀ d ∈ ds, GoodD d dp wt) → GoodA ds dp (wt + 1)
  | [], _ => ⟨by unfold PyData.showableAll; rfl, by unfold PyData.hasDictAll; rfl, by unfold PyData.depthAll; exact Nat.zero_le _, by unfold PyData.canLayAll0; rfl, by unfold PyData.weightAll; exact Nat.zero_le _, by unfold PyData.intsShortAll; rfl⟩
  | d :: t, h => by
    have hd := h d List.mem_cons_self
    have ht := good_all t fun e he => h e (List.mem_cons_of_mem _ he)
    refine ⟨by unfold PyData.showableAll; rw [hd.show_, ht.show_]; rfl, by unfold PyData.hasDictAll; rw [hd.dict, ht.dict]; rfl, by unfold PyData.depthAll; have := hd.depth; have := ht.depth; omega, by unfold PyData.canLayAll0; rw [hd.lay, ht.lay]; rfl, ?_, by unfold PyData.intsShortAll; rw [hd.short, ht.short]; rfl⟩
    unfold PyData.weightAll
    have h1 := hd.weight
    have h2 := ht.weight
    rw [List.length_cons, Nat.mul_succ]
    omega
theorem GoodA.list {ds : List PyData} {dp wt : Nat} (h : GoodA ds dp wt) : GoodD (.list ds) (dp + 1) (wt * ds.length) :=
  ⟨by unfold PyData.showable; exact h.show_, by unfold PyData.hasDict; exact h.dict, by unfold PyData.depth; exact Nat.succ_le_succ h.depth, by unfold PyData.canLay0; exact h.lay, by unfold PyData.weight; exact h.weight, by unfold PyData.intsShort; exact h.short⟩
theorem GoodA.tuple {ds : List PyData} {dp wt : Nat} (h : GoodA ds dp wt) : GoodD (.tuple ds) (dp + 1) (wt * ds.length) :=
  ⟨by unfold PyData.showable; exact h.show_, by unfold PyData.hasDict; exact h.dict, by unfold PyData.depth; exact Nat.succ_le_succ h.depth, by unfold PyData.canLay0; exact h.lay, by unfold PyData.weight; exact h.weight, by unfold PyData.intsShort; exact h.short⟩
theorem good_dG {g : G3} (h1 : Sm g.2.1) (h2 : Sm g.2.2) : GoodD (dG g) 1 68 := by
  have ha : GoodA [PyData.int g.2.1, PyData.int g.2.2] 0 34 := good_all _ fun d hd => by
    rcases List.mem_cons.mp hd with rfl | hd
    · exact good_int h1
    · rw [List.mem_singleton.mp hd]; exact good_int h2
  unfold dG
  split
  · exact ha.list
  · exact ha.tuple
theorem good_datG {gs : List G3} (h : ∀ g ∈ gs, Sm g.2.1 ∧ Sm g.2.2) : GoodD (datG gs) 2 (69 * gs.length) := by
  have := (good_all (gs.map dG) fun d hd => by
    obtain ⟨g, hg, rfl⟩ := List.mem_map.mp hd
    exact good_dG (h g hg).1 (h g hg).2).list
  rw [List.length_map] at this
  exact this
theorem GoodD.fits {d : PyData} {dp wt : Nat} (h : GoodD d dp wt) (h1 : dp ≤ 64) (h2 : wt ≤ 2 ^ 20) : d.shown.length ≤ sizeLine := by
  refine PyData.shown_fits_of_layable0 (B := 13) (by decide) (by decide) ?_ h.short
  unfold PyData.layable0
  rw [h.lay, decide_eq_true (Nat.le_trans h.depth h1), decide_eq_true (Nat.le_trans h.weight h2)]
  rfl
theorem GoodD.shaped {d : PyData} {dp wt : Nat} (h : GoodD d dp wt) (h1 : dp ≤ 64) : SeqAt.shaped d = true := by
  unfold SeqAt.shaped
  rw [h.lay, decide_eq_true (Nat.le_trans h.depth h1)]
  rfl
end L2
end
section
set_option maxRecDepth 100000
set_option maxHeartbeats 4000000
namespace K16
open PySem PySem.Spec PyProof.Rows L2
def top (i : Nat) : Stmt := PySem.Challenge.pw_seenenough_k16_fewest_visits_and_served.main.body.getD i (.Pass ⟨0, 0, 0, 0⟩)
abbrev s_check : Stmt := top 13
theorem sc_check : FnScope ["what", "number"] ["what", "number"] (defScope s_check) := ⟨rfl, rfl, rfl, by decide +kernel, rfl, by decide +kernel, by decide +kernel⟩
abbrev s_is_served : Stmt := top 15
theorem sc_is_served : FnScope ["day", "need", "call_day", "reach"] ["day", "need", "call_day", "reach"] (defScope s_is_served) := ⟨rfl, rfl, rfl, by decide +kernel, rfl, by decide +kernel, by decide +kernel⟩
abbrev s_first_unserved : Stmt := top 16
theorem sc_first_unserved : FnScope ["needs", "calls", "day", "need", "call"] ["needs", "calls"] (defScope s_first_unserved) := ⟨rfl, rfl, rfl, by decide +kernel, rfl, by decide +kernel, by decide +kernel⟩
abbrev s_check_reach : Stmt := top 17
theorem sc_check_reach : FnScope ["reach"] ["reach"] (defScope s_check_reach) := ⟨rfl, rfl, rfl, by decide +kernel, rfl, by decide +kernel, by decide +kernel⟩
abbrev s_unserved_day : Stmt := top 18
theorem sc_unserved_day : FnScope ["needs", "calls", "row", "call"] ["needs", "calls"] (defScope s_unserved_day) := ⟨rfl, rfl, rfl, by decide +kernel, rfl, by decide +kernel, by decide +kernel⟩
abbrev s_fewest_visits : Stmt := top 19
theorem sc_fewest_visits : FnScope ["needs", "reach", "day", "need", "taken", "last"] ["needs", "reach"] (defScope s_fewest_visits) := ⟨rfl, rfl, rfl, by decide +kernel, rfl, by decide +kernel, by decide +kernel⟩
abbrev s_record_days : Stmt := top 21
theorem sc_record_days : FnScope ["needs", "found", "best", "day", "need"] ["needs"] (defScope s_record_days) := ⟨rfl, rfl, rfl, by decide +kernel, rfl, by decide +kernel, by decide +kernel⟩
abbrev s_common_needs : Stmt := top 22
theorem sc_common_needs : FnScope ["lists", "needs", "at"] ["lists"] (defScope s_common_needs) := ⟨rfl, rfl, rfl, by decide +kernel, rfl, by decide +kernel, by decide +kernel⟩
abbrev s_sight_of : Stmt := top 24
theorem sc_sight_of : FnScope ["days", "calls", "row", "day", "reach", "sight", "today", "seen"] ["days", "calls"] (defScope s_sight_of) := ⟨rfl, rfl, rfl, by decide +kernel, rfl, by decide +kernel, by decide +kernel⟩
abbrev s__law_e_error : Stmt := top 26
theorem sc__law_e_error : FnScope ["error", "found"] ["error"] (defScope s__law_e_error) := ⟨rfl, rfl, rfl, by decide +kernel, rfl, by decide +kernel, by decide +kernel⟩
abbrev s__law_e_refused : Stmt := top 27
theorem sc__law_e_refused : FnScope ["call", "due", "kept", "raised"] ["call", "due"] (defScope s__law_e_refused) := ⟨rfl, rfl, rfl, by decide +kernel, rfl, by decide +kernel, by decide +kernel⟩
abbrev s__law_e_spoil : Stmt := top 28
theorem sc__law_e_spoil : FnScope ["thing", "one"] ["thing"] (defScope s__law_e_spoil) := ⟨rfl, rfl, rfl, by decide +kernel, rfl, by decide +kernel, by decide +kernel⟩
abbrev s__law_e_twice : Stmt := top 29
theorem sc__law_e_twice : FnScope ["call", "due", "told"] ["call", "due"] (defScope s__law_e_twice) := ⟨rfl, rfl, rfl, by decide +kernel, rfl, by decide +kernel, by decide +kernel⟩
abbrev s__law_e_drawn_needs : Stmt := top 30
theorem sc__law_e_drawn_needs : FnScope ["stock", "days", "way", "found", "low", "day", "need"] ["stock", "days"] (defScope s__law_e_drawn_needs) := ⟨rfl, rfl, rfl, by decide +kernel, rfl, by decide +kernel, by decide +kernel⟩
abbrev s__law_e_serves : Stmt := top 31
theorem sc__law_e_serves : FnScope ["call", "day", "need"] ["call", "day", "need"] (defScope s__law_e_serves) := ⟨rfl, rfl, rfl, by decide +kernel, rfl, by decide +kernel, by decide +kernel⟩
abbrev s__law_e_unserved : Stmt := top 32
theorem sc__law_e_unserved : FnScope ["needs", "calls", "day", "call"] ["needs", "calls"] (defScope s__law_e_unserved) := ⟨rfl, rfl, rfl, by decide +kernel, rfl, by decide +kernel, by decide +kernel⟩
abbrev s__law_e_records : Stmt := top 33
theorem sc__law_e_records : FnScope ["needs", "found", "day"] ["needs"] (defScope s__law_e_records) := ⟨rfl, rfl, rfl, by decide +kernel, rfl, by decide +kernel, by decide +kernel⟩
abbrev s__law_e_subsets : Stmt := top 34
theorem sc__law_e_subsets : FnScope ["things", "found", "thing", "row"] ["things"] (defScope s__law_e_subsets) := ⟨rfl, rfl, rfl, by decide +kernel, rfl, by decide +kernel, by decide +kernel⟩
abbrev s__law_stock : Stmt := top 35
theorem sc__law_stock : FnScope ["script", "at", "one", "cell", "size", "small"] ["script", "at"] (defScope s__law_stock) := ⟨rfl, rfl, rfl, by decide +kernel, rfl, by decide +kernel, by decide +kernel⟩
abbrev s__law_draw : Stmt := top 36
theorem sc__law_draw : FnScope ["stock", "many", "found"] ["stock", "many"] (defScope s__law_draw) := ⟨rfl, rfl, rfl, by decide +kernel, rfl, by decide +kernel, by decide +kernel⟩
abbrev s__law_mix : Stmt := top 37
theorem sc__law_mix : FnScope ["stock", "things", "left", "mixed", "turn"] ["stock", "things"] (defScope s__law_mix) := ⟨rfl, rfl, rfl, by decide +kernel, rfl, by decide +kernel, by decide +kernel⟩
abbrev s__law_matches : Stmt := top 38
theorem sc__law_matches : FnScope ["answer", "due", "key", "at"] ["answer", "due"] (defScope s__law_matches) := ⟨rfl, rfl, rfl, by decide +kernel, rfl, by decide +kernel, by decide +kernel⟩
abbrev s__law_k16_sights : Stmt := top 39
theorem sc__law_k16_sights : FnScope ["days", "calls", "found", "day", "call"] ["days", "calls"] (defScope s__law_k16_sights) := ⟨rfl, rfl, rfl, by decide +kernel, rfl, by decide +kernel, by decide +kernel⟩
abbrev s__law_k16_low : Stmt := top 40
theorem sc__law_k16_low : FnScope ["needs", "day", "reach"] ["needs", "day", "reach"] (defScope s__law_k16_low) := ⟨rfl, rfl, rfl, by decide +kernel, rfl, by decide +kernel, by decide +kernel⟩
abbrev s__law_k16_visits : Stmt := top 41
theorem sc__law_k16_visits : FnScope ["needs", "reach", "day", "taken", "one"] ["needs", "reach"] (defScope s__law_k16_visits) := ⟨rfl, rfl, rfl, by decide +kernel, rfl, by decide +kernel, by decide +kernel⟩
abbrev s__law_k16_fewest : Stmt := top 42
theorem sc__law_k16_fewest : FnScope ["needs", "reach", "best", "row", "day"] ["needs", "reach"] (defScope s__law_k16_fewest) := ⟨rfl, rfl, rfl, by decide +kernel, rfl, by decide +kernel, by decide +kernel⟩
abbrev s__law_k16_apart : Stmt := top 43
theorem sc__law_k16_apart : FnScope ["needs", "reach", "days", "at"] ["needs", "reach", "days"] (defScope s__law_k16_apart) := ⟨rfl, rfl, rfl, by decide +kernel, rfl, by decide +kernel, by decide +kernel⟩
abbrev s__law_k16_good : Stmt := top 44
theorem sc__law_k16_good : FnScope ["needs", "reach", "given", "due", "day", "fewest"] ["needs", "reach"] (defScope s__law_k16_good) := ⟨rfl, rfl, rfl, by decide +kernel, rfl, by decide +kernel, by decide +kernel⟩
abbrev s__law_k16_served : Stmt := top 45
theorem sc__law_k16_served : FnScope ["stock", "needs", "days", "calls", "turn", "reach", "told", "lists", "day", "good", "row", "call", "given", "copy", "due", "sights"] ["stock", "needs"] (defScope s__law_k16_served) := ⟨rfl, rfl, rfl, by decide +kernel, rfl, by decide +kernel, by decide +kernel⟩
abbrev s__law_k16_refused : Stmt := top 46
theorem sc__law_k16_refused : FnScope ["stock", "needs", "days", "turn", "calls", "at", "wrong", "bad", "near", "reach"] ["stock", "needs"] (defScope s__law_k16_refused) := ⟨rfl, rfl, rfl, by decide +kernel, rfl, by decide +kernel, by decide +kernel⟩
abbrev s_law : Stmt := top 47
theorem sc_law : FnScope ["script", "stock", "days", "one", "other", "reach", "needs", "day", "both", "given"] ["script"] (defScope s_law) := ⟨rfl, rfl, rfl, by decide +kernel, rfl, by decide +kernel, by decide +kernel⟩
abbrev s_TooMany___init__ : Stmt := inClass (top 2) 0
theorem sc_TooMany___init__ : FnScope ["self", "what"] ["self", "what"] (defScope s_TooMany___init__) := ⟨rfl, rfl, rfl, by decide +kernel, rfl, by decide +kernel, by decide +kernel⟩
abbrev s_BadSetting___init__ : Stmt := inClass (top 5) 0
theorem sc_BadSetting___init__ : FnScope ["self", "what"] ["self", "what"] (defScope s_BadSetting___init__) := ⟨rfl, rfl, rfl, by decide +kernel, rfl, by decide +kernel, by decide +kernel⟩
abbrev s_BadCalls___init__ : Stmt := inClass (top 6) 0
theorem sc_BadCalls___init__ : FnScope ["self", "row"] ["self", "row"] (defScope s_BadCalls___init__) := ⟨rfl, rfl, rfl, by decide +kernel, rfl, by decide +kernel, by decide +kernel⟩
def d_check : He.DefD := ⟨("check", none), "check", "check", defArgs s_check, defBody s_check, defScope s_check, [], []⟩
def d_is_served : He.DefD := ⟨("is_served", none), "is_served", "is_served", defArgs s_is_served, defBody s_is_served, defScope s_is_served, [], []⟩
def d_first_unserved : He.DefD := ⟨("first_unserved", none), "first_unserved", "first_unserved", defArgs s_first_unserved, defBody s_first_unserved, defScope s_first_unserved, [], []⟩
def d_check_reach : He.DefD := ⟨("check_reach", none), "check_reach", "check_reach", defArgs s_check_reach, defBody s_check_reach, defScope s_check_reach, [], []⟩
def d_unserved_day : He.DefD := ⟨("unserved_day", none), "unserved_day", "unserved_day", defArgs s_unserved_day, defBody s_unserved_day, defScope s_unserved_day, [], []⟩
def d_fewest_visits : He.DefD := ⟨("fewest_visits", none), "fewest_visits", "fewest_visits", defArgs s_fewest_visits, defBody s_fewest_visits, defScope s_fewest_visits, [], []⟩
def d_record_days : He.DefD := ⟨("record_days", none), "record_days", "record_days", defArgs s_record_days, defBody s_record_days, defScope s_record_days, [], []⟩
def d_common_needs : He.DefD := ⟨("common_needs", none), "common_needs", "common_needs", defArgs s_common_needs, defBody s_common_needs, defScope s_common_needs, [], []⟩
def d_sight_of : He.DefD := ⟨("sight_of", none), "sight_of", "sight_of", defArgs s_sight_of, defBody s_sight_of, defScope s_sight_of, [], []⟩
def d__law_e_error : He.DefD := ⟨("_law_e_error", none), "_law_e_error", "_law_e_error", defArgs s__law_e_error, defBody s__law_e_error, defScope s__law_e_error, [], []⟩
def d__law_e_refused : He.DefD := ⟨("_law_e_refused", none), "_law_e_refused", "_law_e_refused", defArgs s__law_e_refused, defBody s__law_e_refused, defScope s__law_e_refused, [], []⟩
def d__law_e_spoil : He.DefD := ⟨("_law_e_spoil", none), "_law_e_spoil", "_law_e_spoil", defArgs s__law_e_spoil, defBody s__law_e_spoil, defScope s__law_e_spoil, [], []⟩
def d__law_e_twice : He.DefD := ⟨("_law_e_twice", none), "_law_e_twice", "_law_e_twice", defArgs s__law_e_twice, defBody s__law_e_twice, defScope s__law_e_twice, [], []⟩
def d__law_e_drawn_needs : He.DefD := ⟨("_law_e_drawn_needs", none), "_law_e_drawn_needs", "_law_e_drawn_needs", defArgs s__law_e_drawn_needs, defBody s__law_e_drawn_needs, defScope s__law_e_drawn_needs, [], []⟩
def d__law_e_serves : He.DefD := ⟨("_law_e_serves", none), "_law_e_serves", "_law_e_serves", defArgs s__law_e_serves, defBody s__law_e_serves, defScope s__law_e_serves, [], []⟩
def d__law_e_unserved : He.DefD := ⟨("_law_e_unserved", none), "_law_e_unserved", "_law_e_unserved", defArgs s__law_e_unserved, defBody s__law_e_unserved, defScope s__law_e_unserved, [], []⟩
def d__law_e_records : He.DefD := ⟨("_law_e_records", none), "_law_e_records", "_law_e_records", defArgs s__law_e_records, defBody s__law_e_records, defScope s__law_e_records, [], []⟩
def d__law_e_subsets : He.DefD := ⟨("_law_e_subsets", none), "_law_e_subsets", "_law_e_subsets", defArgs s__law_e_subsets, defBody s__law_e_subsets, defScope s__law_e_subsets, [], []⟩
def d__law_stock : He.DefD := ⟨("_law_stock", none), "_law_stock", "_law_stock", defArgs s__law_stock, defBody s__law_stock, defScope s__law_stock, [], []⟩
def d__law_draw : He.DefD := ⟨("_law_draw", none), "_law_draw", "_law_draw", defArgs s__law_draw, defBody s__law_draw, defScope s__law_draw, [], []⟩
def d__law_mix : He.DefD := ⟨("_law_mix", none), "_law_mix", "_law_mix", defArgs s__law_mix, defBody s__law_mix, defScope s__law_mix, [], []⟩
def d__law_matches : He.DefD := ⟨("_law_matches", none), "_law_matches", "_law_matches", defArgs s__law_matches, defBody s__law_matches, defScope s__law_matches, [], []⟩
def d__law_k16_sights : He.DefD := ⟨("_law_k16_sights", none), "_law_k16_sights", "_law_k16_sights", defArgs s__law_k16_sights, defBody s__law_k16_sights, defScope s__law_k16_sights, [], []⟩
def d__law_k16_low : He.DefD := ⟨("_law_k16_low", none), "_law_k16_low", "_law_k16_low", defArgs s__law_k16_low, defBody s__law_k16_low, defScope s__law_k16_low, [], []⟩
def d__law_k16_visits : He.DefD := ⟨("_law_k16_visits", none), "_law_k16_visits", "_law_k16_visits", defArgs s__law_k16_visits, defBody s__law_k16_visits, defScope s__law_k16_visits, [], []⟩
def d__law_k16_fewest : He.DefD := ⟨("_law_k16_fewest", none), "_law_k16_fewest", "_law_k16_fewest", defArgs s__law_k16_fewest, defBody s__law_k16_fewest, defScope s__law_k16_fewest, [], []⟩
def d__law_k16_apart : He.DefD := ⟨("_law_k16_apart", none), "_law_k16_apart", "_law_k16_apart", defArgs s__law_k16_apart, defBody s__law_k16_apart, defScope s__law_k16_apart, [], []⟩
def d__law_k16_good : He.DefD := ⟨("_law_k16_good", none), "_law_k16_good", "_law_k16_good", defArgs s__law_k16_good, defBody s__law_k16_good, defScope s__law_k16_good, [], []⟩
def d__law_k16_served : He.DefD := ⟨("_law_k16_served", none), "_law_k16_served", "_law_k16_served", defArgs s__law_k16_served, defBody s__law_k16_served, defScope s__law_k16_served, [], []⟩
def d__law_k16_refused : He.DefD := ⟨("_law_k16_refused", none), "_law_k16_refused", "_law_k16_refused", defArgs s__law_k16_refused, defBody s__law_k16_refused, defScope s__law_k16_refused, [], []⟩
def d_law : He.DefD := ⟨("law", none), "law", "law", defArgs s_law, defBody s_law, defScope s_law, [], []⟩
def d_TooMany___init__ : He.DefD := ⟨("TooMany", some "__init__"), "__init__", "TooMany.__init__", defArgs s_TooMany___init__, defBody s_TooMany___init__, defScope s_TooMany___init__, [], []⟩
def d_BadSetting___init__ : He.DefD := ⟨("BadSetting", some "__init__"), "__init__", "BadSetting.__init__", defArgs s_BadSetting___init__, defBody s_BadSetting___init__, defScope s_BadSetting___init__, [], []⟩
def d_BadCalls___init__ : He.DefD := ⟨("BadCalls", some "__init__"), "__init__", "BadCalls.__init__", defArgs s_BadCalls___init__, defBody s_BadCalls___init__, defScope s_BadCalls___init__, [], []⟩
def fn : List He.DefD := [d_check, d_is_served, d_first_unserved, d_check_reach, d_unserved_day, d_fewest_visits, d_record_days, d_common_needs, d_sight_of, d__law_e_error, d__law_e_refused, d__law_e_spoil, d__law_e_twice, d__law_e_drawn_needs, d__law_e_serves, d__law_e_unserved, d__law_e_records, d__law_e_subsets, d__law_stock, d__law_draw, d__law_mix, d__law_matches, d__law_k16_sights, d__law_k16_low, d__law_k16_visits, d__law_k16_fewest, d__law_k16_apart, d__law_k16_good, d__law_k16_served, d__law_k16_refused, d_law, d_TooMany___init__, d_BadSetting___init__, d_BadCalls___init__]
def fa : List He.Fa := [.glo "check", .glo "is_served", .glo "first_unserved", .glo "check_reach", .glo "unserved_day", .glo "fewest_visits", .glo "record_days", .glo "common_needs", .glo "sight_of", .glo "_law_e_error", .glo "_law_e_refused", .glo "_law_e_spoil", .glo "_law_e_twice", .glo "_law_e_drawn_needs", .glo "_law_e_serves", .glo "_law_e_unserved", .glo "_law_e_records", .glo "_law_e_subsets", .glo "_law_stock", .glo "_law_draw", .glo "_law_mix", .glo "_law_matches", .glo "_law_k16_sights", .glo "_law_k16_low", .glo "_law_k16_visits", .glo "_law_k16_fewest", .glo "_law_k16_apart", .glo "_law_k16_good", .glo "_law_k16_served", .glo "_law_k16_refused", .glo "law", .glo "SeenError", .glo "TooMany", .glo "BadWeather", .glo "BadReport", .glo "BadSetting", .glo "BadCalls", .glo "BadOffers", .glo "BadRow", .glo "NotKept", .glo "BadDay", .glo "LIMITS", .free "len", .free "max", .free "min", .free "any", .free "list", .free "int", .free "abs", .free "sum", .free "repr", .free "isinstance", .free "range", .free "enumerate", .free "bool", .free "str", .free "dict", .free "tuple", .free "ValueError"]
def tf : List He.Defn := [("_law_k16_good", none), ("_law_k16_served", none), ("_law_k16_refused", none), ("law", none)]
def ts : List He.Tab := []
def limits : List (Str × He.Dv) := [("days", .int 24), ("rains", .int 40), ("cans", .int 1000000000000), ("seeds", .int 120), ("weathers", .int 100), ("calls", .int 60), ("price", .int 1000000000000), ("offers", .int 120), ("trials", .int 6), ("lot", .int 14), ("houses", .int 6), ("row", .int 4), ("deeds", .int 120)]
def limKeys : List Str := ["days", "rains", "cans", "seeds", "weathers", "calls", "price", "offers", "trials", "lot", "houses", "row", "deeds"]
def exs (K : PySem.W.Frag) : List Bool := [He.valsB K (He.ga K "LIMITS") limits,
  seB K (He.ga K "SeenError"),
  exTB K (He.ga K "TooMany") (He.ma K (He.ga K "TooMany") "__init__"),
  decide (PySem.W.findIn K (.ref (He.ga K "TooMany")) "what" = some none),
  decide (PySem.W.exmOne K (.ref (He.ga K "TooMany")) (.ref (He.ga K "SeenError")) = some true),
  decide (PySem.W.kitOne K (.ref (He.ga K "TooMany")) (.ref (He.ga K "TooMany")) = some true),
  decide (PySem.W.kitOne K (.ref (He.ga K "TooMany")) (.ref (He.ga K "BadSetting")) = some false),
  decide (PySem.W.kitOne K (.ref (He.ga K "TooMany")) (.ref (He.ga K "BadCalls")) = some false),
  decide (PySem.W.kitOne K (.ref (He.ga K "TooMany")) (.ref (He.ga K "BadOffers")) = some false),
  decide (PySem.W.kitOne K (.ref (He.ga K "TooMany")) (.ref (He.ga K "BadReport")) = some false),
  decide (PySem.W.kitOne K (.ref (He.ga K "TooMany")) (.ref (He.ga K "BadWeather")) = some false),
  decide (PySem.W.kitOne K (.ref (He.ga K "TooMany")) (.ref (He.ga K "BadDay")) = some false),
  decide (PySem.W.kitOne K (.ref (He.ga K "TooMany")) (.ref (He.ga K "BadRow")) = some false),
  decide (PySem.W.kitOne K (.ref (He.ga K "TooMany")) (.ref (He.ga K "NotKept")) = some false),
  decide (PySem.W.kitOne K (.ref (He.ga K "TooMany")) (.type "ValueError") = some true),
  exTB K (He.ga K "BadSetting") (He.ma K (He.ga K "BadSetting") "__init__"),
  decide (PySem.W.findIn K (.ref (He.ga K "BadSetting")) "what" = some none),
  decide (PySem.W.exmOne K (.ref (He.ga K "BadSetting")) (.ref (He.ga K "SeenError")) = some true),
  decide (PySem.W.kitOne K (.ref (He.ga K "BadSetting")) (.ref (He.ga K "TooMany")) = some false),
  decide (PySem.W.kitOne K (.ref (He.ga K "BadSetting")) (.ref (He.ga K "BadSetting")) = some true),
  decide (PySem.W.kitOne K (.ref (He.ga K "BadSetting")) (.ref (He.ga K "BadCalls")) = some false),
  decide (PySem.W.kitOne K (.ref (He.ga K "BadSetting")) (.ref (He.ga K "BadOffers")) = some false),
  decide (PySem.W.kitOne K (.ref (He.ga K "BadSetting")) (.ref (He.ga K "BadReport")) = some false),
  decide (PySem.W.kitOne K (.ref (He.ga K "BadSetting")) (.ref (He.ga K "BadWeather")) = some false),
  decide (PySem.W.kitOne K (.ref (He.ga K "BadSetting")) (.ref (He.ga K "BadDay")) = some false),
  decide (PySem.W.kitOne K (.ref (He.ga K "BadSetting")) (.ref (He.ga K "BadRow")) = some false),
  decide (PySem.W.kitOne K (.ref (He.ga K "BadSetting")) (.ref (He.ga K "NotKept")) = some false),
  decide (PySem.W.kitOne K (.ref (He.ga K "BadSetting")) (.type "ValueError") = some true),
  exTB K (He.ga K "BadCalls") (He.ma K (He.ga K "BadCalls") "__init__"),
  decide (PySem.W.findIn K (.ref (He.ga K "BadCalls")) "row" = some none),
  decide (PySem.W.exmOne K (.ref (He.ga K "BadCalls")) (.ref (He.ga K "SeenError")) = some true),
  decide (PySem.W.kitOne K (.ref (He.ga K "BadCalls")) (.ref (He.ga K "TooMany")) = some false),
  decide (PySem.W.kitOne K (.ref (He.ga K "BadCalls")) (.ref (He.ga K "BadSetting")) = some false),
  decide (PySem.W.kitOne K (.ref (He.ga K "BadCalls")) (.ref (He.ga K "BadCalls")) = some true),
  decide (PySem.W.kitOne K (.ref (He.ga K "BadCalls")) (.ref (He.ga K "BadOffers")) = some false),
  decide (PySem.W.kitOne K (.ref (He.ga K "BadCalls")) (.ref (He.ga K "BadReport")) = some false),
  decide (PySem.W.kitOne K (.ref (He.ga K "BadCalls")) (.ref (He.ga K "BadWeather")) = some false),
  decide (PySem.W.kitOne K (.ref (He.ga K "BadCalls")) (.ref (He.ga K "BadDay")) = some false),
  decide (PySem.W.kitOne K (.ref (He.ga K "BadCalls")) (.ref (He.ga K "BadRow")) = some false),
  decide (PySem.W.kitOne K (.ref (He.ga K "BadCalls")) (.ref (He.ga K "NotKept")) = some false),
  decide (PySem.W.kitOne K (.ref (He.ga K "BadCalls")) (.type "ValueError") = some true),
  decide ((tf.map fun p => (He.cT K p).2).Nodup)]
def ex (K : PySem.W.Frag) : Bool := (exs K).all id
abbrev hk : PySem.W.Hook := He.hookS 5 fa fn [(fun K => He.ga K "LIMITS", limKeys)] tf ex
def ob (s : PySem.W.SharedT) : He.AlX := He.obsS 5 fa fn [(fun K => He.ga K "LIMITS", limKeys)] tf ex (HandSHeadRun.getT s)
theorem ob_eq (s : PySem.W.SharedT) : ob s = hk.obs s.abs := He.obsS_eq (HandSHeadRun.getT_eq s)
/-- what the head tells of the written part -/
structure Txt (w : World) (K : PySem.W.Frag) (mg : Str → Option Value) : Prop where
  ex : ∃ h, K.In h ∧ h.Ns mainGlobals mg ∧ He.SaysX fa fn [(fun K => He.ga K "LIMITS", limKeys)] tf ex w h K
section
variable {w : World} {K : PySem.W.Frag} {mg : Str → Option Value}
theorem Txt.df (T : Txt w K mg) (i j : Nat) {d : He.DefD} (hd : d.dfl = []) (hk : d.kwd = []) (h : fn[i]? = some d) (x : Str) (hx : d.at_ = (x, none)) (hg : fa[j]? = some (.glo x)) : ∃ f fd, FunD K d.name d.qual d.params d.body d.scope [] [] f fd ∧ mg x = some (.ref f) := by
  obtain ⟨h0, X, G, c⟩ := T.ex
  obtain ⟨fd, F⟩ := c.t.d.defs (List.mem_of_getElem? h)
  have e1 : d.dvs K = [] := by unfold He.DefD.dvs; rw [hd]; rfl
  have e2 : d.kws K = [] := by unfold He.DefD.kws; rw [hk]; rfl
  rw [e1, e2, hx] at F
  exact ⟨_, fd, F, He.glo_ok X G (c.t.d.facts (List.mem_of_getElem? hg))⟩
theorem Txt.dm (T : Txt w K mg) (i : Nat) {d : He.DefD} (hd : d.dfl = []) (hk : d.kwd = []) (h : fn[i]? = some d) : ∃ fd, FunD K d.name d.qual d.params d.body d.scope [] [] (He.fAd K d.at_) fd := by
  obtain ⟨h0, X, G, c⟩ := T.ex
  obtain ⟨fd, F⟩ := c.t.d.defs (List.mem_of_getElem? h)
  have e1 : d.dvs K = [] := by unfold He.DefD.dvs; rw [hd]; rfl
  have e2 : d.kws K = [] := by unfold He.DefD.kws; rw [hk]; rfl
  rw [e1, e2] at F
  exact ⟨fd, F⟩
theorem Txt.gl (T : Txt w K mg) (j : Nat) (x : Str) (hg : fa[j]? = some (.glo x)) : mg x = some (.ref (He.ga K x)) := by
  obtain ⟨h0, X, G, c⟩ := T.ex
  exact He.glo_ok X G (c.t.d.facts (List.mem_of_getElem? hg))
theorem Txt.fr (T : Txt w K mg) (j : Nat) (x : Str) (hg : fa[j]? = some (.free x)) : mg x = none := by
  obtain ⟨h0, X, G, c⟩ := T.ex
  exact He.free_ok X G (c.t.d.facts (List.mem_of_getElem? hg))
theorem Txt.x (T : Txt w K mg) (i : Nat) {b : Bool} (h : (exs K)[i]? = some b) : b = true := by
  obtain ⟨h0, X, G, c⟩ := T.ex
  exact List.all_eq_true.mp c.more b (List.mem_of_getElem? h)
theorem f_check (T : Txt w K mg) : ∃ f fd, FnP K "check" s_check f fd ∧ mg "check" = some (.ref f) := T.df 0 0 (d := d_check) rfl rfl rfl "check" rfl rfl
theorem f_is_served (T : Txt w K mg) : ∃ f fd, FnP K "is_served" s_is_served f fd ∧ mg "is_served" = some (.ref f) := T.df 1 1 (d := d_is_served) rfl rfl rfl "is_served" rfl rfl
theorem f_first_unserved (T : Txt w K mg) : ∃ f fd, FnP K "first_unserved" s_first_unserved f fd ∧ mg "first_unserved" = some (.ref f) := T.df 2 2 (d := d_first_unserved) rfl rfl rfl "first_unserved" rfl rfl
theorem f_check_reach (T : Txt w K mg) : ∃ f fd, FnP K "check_reach" s_check_reach f fd ∧ mg "check_reach" = some (.ref f) := T.df 3 3 (d := d_check_reach) rfl rfl rfl "check_reach" rfl rfl
theorem f_unserved_day (T : Txt w K mg) : ∃ f fd, FnP K "unserved_day" s_unserved_day f fd ∧ mg "unserved_day" = some (.ref f) := T.df 4 4 (d := d_unserved_day) rfl rfl rfl "unserved_day" rfl rfl
theorem f_fewest_visits (T : Txt w K mg) : ∃ f fd, FnP K "fewest_visits" s_fewest_visits f fd ∧ mg "fewest_visits" = some (.ref f) := T.df 5 5 (d := d_fewest_visits) rfl rfl rfl "fewest_visits" rfl rfl
theorem f_record_days (T : Txt w K mg) : ∃ f fd, FnP K "record_days" s_record_days f fd ∧ mg "record_days" = some (.ref f) := T.df 6 6 (d := d_record_days) rfl rfl rfl "record_days" rfl rfl
theorem f_common_needs (T : Txt w K mg) : ∃ f fd, FnP K "common_needs" s_common_needs f fd ∧ mg "common_needs" = some (.ref f) := T.df 7 7 (d := d_common_needs) rfl rfl rfl "common_needs" rfl rfl
theorem f_sight_of (T : Txt w K mg) : ∃ f fd, FnP K "sight_of" s_sight_of f fd ∧ mg "sight_of" = some (.ref f) := T.df 8 8 (d := d_sight_of) rfl rfl rfl "sight_of" rfl rfl
theorem f__law_e_error (T : Txt w K mg) : ∃ f fd, FnP K "_law_e_error" s__law_e_error f fd ∧ mg "_law_e_error" = some (.ref f) := T.df 9 9 (d := d__law_e_error) rfl rfl rfl "_law_e_error" rfl rfl
theorem f__law_e_refused (T : Txt w K mg) : ∃ f fd, FnP K "_law_e_refused" s__law_e_refused f fd ∧ mg "_law_e_refused" = some (.ref f) := T.df 10 10 (d := d__law_e_refused) rfl rfl rfl "_law_e_refused" rfl rfl
theorem f__law_e_spoil (T : Txt w K mg) : ∃ f fd, FnP K "_law_e_spoil" s__law_e_spoil f fd ∧ mg "_law_e_spoil" = some (.ref f) := T.df 11 11 (d := d__law_e_spoil) rfl rfl rfl "_law_e_spoil" rfl rfl
theorem f__law_e_twice (T : Txt w K mg) : ∃ f fd, FnP K "_law_e_twice" s__law_e_twice f fd ∧ mg "_law_e_twice" = some (.ref f) := T.df 12 12 (d := d__law_e_twice) rfl rfl rfl "_law_e_twice" rfl rfl
theorem f__law_e_drawn_needs (T : Txt w K mg) : ∃ f fd, FnP K "_law_e_drawn_needs" s__law_e_drawn_needs f fd ∧ mg "_law_e_drawn_needs" = some (.ref f) := T.df 13 13 (d := d__law_e_drawn_needs) rfl rfl rfl "_law_e_drawn_needs" rfl rfl
theorem f__law_e_serves (T : Txt w K mg) : ∃ f fd, FnP K "_law_e_serves" s__law_e_serves f fd ∧ mg "_law_e_serves" = some (.ref f) := T.df 14 14 (d := d__law_e_serves) rfl rfl rfl "_law_e_serves" rfl rfl
theorem f__law_e_unserved (T : Txt w K mg) : ∃ f fd, FnP K "_law_e_unserved" s__law_e_unserved f fd ∧ mg "_law_e_unserved" = some (.ref f) := T.df 15 15 (d := d__law_e_unserved) rfl rfl rfl "_law_e_unserved" rfl rfl
theorem f__law_e_records (T : Txt w K mg) : ∃ f fd, FnP K "_law_e_records" s__law_e_records f fd ∧ mg "_law_e_records" = some (.ref f) := T.df 16 16 (d := d__law_e_records) rfl rfl rfl "_law_e_records" rfl rfl
theorem f__law_e_subsets (T : Txt w K mg) : ∃ f fd, FnP K "_law_e_subsets" s__law_e_subsets f fd ∧ mg "_law_e_subsets" = some (.ref f) := T.df 17 17 (d := d__law_e_subsets) rfl rfl rfl "_law_e_subsets" rfl rfl
theorem f__law_stock (T : Txt w K mg) : ∃ f fd, FnP K "_law_stock" s__law_stock f fd ∧ mg "_law_stock" = some (.ref f) := T.df 18 18 (d := d__law_stock) rfl rfl rfl "_law_stock" rfl rfl
theorem f__law_draw (T : Txt w K mg) : ∃ f fd, FnP K "_law_draw" s__law_draw f fd ∧ mg "_law_draw" = some (.ref f) := T.df 19 19 (d := d__law_draw) rfl rfl rfl "_law_draw" rfl rfl
theorem f__law_mix (T : Txt w K mg) : ∃ f fd, FnP K "_law_mix" s__law_mix f fd ∧ mg "_law_mix" = some (.ref f) := T.df 20 20 (d := d__law_mix) rfl rfl rfl "_law_mix" rfl rfl
theorem f__law_matches (T : Txt w K mg) : ∃ f fd, FnP K "_law_matches" s__law_matches f fd ∧ mg "_law_matches" = some (.ref f) := T.df 21 21 (d := d__law_matches) rfl rfl rfl "_law_matches" rfl rfl
theorem f__law_k16_sights (T : Txt w K mg) : ∃ f fd, FnP K "_law_k16_sights" s__law_k16_sights f fd ∧ mg "_law_k16_sights" = some (.ref f) := T.df 22 22 (d := d__law_k16_sights) rfl rfl rfl "_law_k16_sights" rfl rfl
theorem f__law_k16_low (T : Txt w K mg) : ∃ f fd, FnP K "_law_k16_low" s__law_k16_low f fd ∧ mg "_law_k16_low" = some (.ref f) := T.df 23 23 (d := d__law_k16_low) rfl rfl rfl "_law_k16_low" rfl rfl
theorem f__law_k16_visits (T : Txt w K mg) : ∃ f fd, FnP K "_law_k16_visits" s__law_k16_visits f fd ∧ mg "_law_k16_visits" = some (.ref f) := T.df 24 24 (d := d__law_k16_visits) rfl rfl rfl "_law_k16_visits" rfl rfl
theorem f__law_k16_fewest (T : Txt w K mg) : ∃ f fd, FnP K "_law_k16_fewest" s__law_k16_fewest f fd ∧ mg "_law_k16_fewest" = some (.ref f) := T.df 25 25 (d := d__law_k16_fewest) rfl rfl rfl "_law_k16_fewest" rfl rfl
theorem f__law_k16_apart (T : Txt w K mg) : ∃ f fd, FnP K "_law_k16_apart" s__law_k16_apart f fd ∧ mg "_law_k16_apart" = some (.ref f) := T.df 26 26 (d := d__law_k16_apart) rfl rfl rfl "_law_k16_apart" rfl rfl
theorem f__law_k16_good (T : Txt w K mg) : ∃ f fd, FnP K "_law_k16_good" s__law_k16_good f fd ∧ mg "_law_k16_good" = some (.ref f) := T.df 27 27 (d := d__law_k16_good) rfl rfl rfl "_law_k16_good" rfl rfl
theorem f__law_k16_served (T : Txt w K mg) : ∃ f fd, FnP K "_law_k16_served" s__law_k16_served f fd ∧ mg "_law_k16_served" = some (.ref f) := T.df 28 28 (d := d__law_k16_served) rfl rfl rfl "_law_k16_served" rfl rfl
theorem f__law_k16_refused (T : Txt w K mg) : ∃ f fd, FnP K "_law_k16_refused" s__law_k16_refused f fd ∧ mg "_law_k16_refused" = some (.ref f) := T.df 29 29 (d := d__law_k16_refused) rfl rfl rfl "_law_k16_refused" rfl rfl
theorem f_law (T : Txt w K mg) : ∃ f fd, FnP K "law" s_law f fd ∧ mg "law" = some (.ref f) := T.df 30 30 (d := d_law) rfl rfl rfl "law" rfl rfl
theorem fi_TooMany (T : Txt w K mg) : ∃ fd, FnM K "__init__" "TooMany.__init__" s_TooMany___init__ (He.ma K (He.ga K "TooMany") "__init__") fd := T.dm 31 (d := d_TooMany___init__) rfl rfl rfl
theorem fi_BadSetting (T : Txt w K mg) : ∃ fd, FnM K "__init__" "BadSetting.__init__" s_BadSetting___init__ (He.ma K (He.ga K "BadSetting") "__init__") fd := T.dm 32 (d := d_BadSetting___init__) rfl rfl rfl
theorem fi_BadCalls (T : Txt w K mg) : ∃ fd, FnM K "__init__" "BadCalls.__init__" s_BadCalls___init__ (He.ma K (He.ga K "BadCalls") "__init__") fd := T.dm 33 (d := d_BadCalls___init__) rfl rfl rfl
theorem g_SeenError (T : Txt w K mg) : mg "SeenError" = some (.ref (He.ga K "SeenError")) := T.gl 31 "SeenError" rfl
theorem g_TooMany (T : Txt w K mg) : mg "TooMany" = some (.ref (He.ga K "TooMany")) := T.gl 32 "TooMany" rfl
theorem g_BadWeather (T : Txt w K mg) : mg "BadWeather" = some (.ref (He.ga K "BadWeather")) := T.gl 33 "BadWeather" rfl
theorem g_BadReport (T : Txt w K mg) : mg "BadReport" = some (.ref (He.ga K "BadReport")) := T.gl 34 "BadReport" rfl
theorem g_BadSetting (T : Txt w K mg) : mg "BadSetting" = some (.ref (He.ga K "BadSetting")) := T.gl 35 "BadSetting" rfl
theorem g_BadCalls (T : Txt w K mg) : mg "BadCalls" = some (.ref (He.ga K "BadCalls")) := T.gl 36 "BadCalls" rfl
theorem g_BadOffers (T : Txt w K mg) : mg "BadOffers" = some (.ref (He.ga K "BadOffers")) := T.gl 37 "BadOffers" rfl
theorem g_BadRow (T : Txt w K mg) : mg "BadRow" = some (.ref (He.ga K "BadRow")) := T.gl 38 "BadRow" rfl
theorem g_NotKept (T : Txt w K mg) : mg "NotKept" = some (.ref (He.ga K "NotKept")) := T.gl 39 "NotKept" rfl
theorem g_BadDay (T : Txt w K mg) : mg "BadDay" = some (.ref (He.ga K "BadDay")) := T.gl 40 "BadDay" rfl
theorem g_LIMITS (T : Txt w K mg) : mg "LIMITS" = some (.ref (He.ga K "LIMITS")) := T.gl 41 "LIMITS" rfl
theorem n_len (T : Txt w K mg) : mg "len" = none := T.fr 42 "len" rfl
theorem n_max (T : Txt w K mg) : mg "max" = none := T.fr 43 "max" rfl
theorem n_min (T : Txt w K mg) : mg "min" = none := T.fr 44 "min" rfl
theorem n_any (T : Txt w K mg) : mg "any" = none := T.fr 45 "any" rfl
theorem n_list (T : Txt w K mg) : mg "list" = none := T.fr 46 "list" rfl
theorem n_int (T : Txt w K mg) : mg "int" = none := T.fr 47 "int" rfl
theorem n_abs (T : Txt w K mg) : mg "abs" = none := T.fr 48 "abs" rfl
theorem n_sum (T : Txt w K mg) : mg "sum" = none := T.fr 49 "sum" rfl
theorem n_repr (T : Txt w K mg) : mg "repr" = none := T.fr 50 "repr" rfl
theorem n_isinstance (T : Txt w K mg) : mg "isinstance" = none := T.fr 51 "isinstance" rfl
theorem n_range (T : Txt w K mg) : mg "range" = none := T.fr 52 "range" rfl
theorem n_enumerate (T : Txt w K mg) : mg "enumerate" = none := T.fr 53 "enumerate" rfl
theorem n_bool (T : Txt w K mg) : mg "bool" = none := T.fr 54 "bool" rfl
theorem n_str (T : Txt w K mg) : mg "str" = none := T.fr 55 "str" rfl
theorem n_dict (T : Txt w K mg) : mg "dict" = none := T.fr 56 "dict" rfl
theorem n_tuple (T : Txt w K mg) : mg "tuple" = none := T.fr 57 "tuple" rfl
theorem n_ValueError (T : Txt w K mg) : mg "ValueError" = none := T.fr 58 "ValueError" rfl
theorem lim (T : Txt w K mg) {z : Str} {n : Int} (hz : (z, He.Dv.int n) ∈ limits) : KDct K w (He.ga K "LIMITS") z (.int n) := by
  have hv := T.x 0 rfl
  obtain ⟨h0, X, G, c⟩ := T.ex
  obtain ⟨es, m, hl, hk, hs⟩ := c.t.tab 0 rfl
  obtain ⟨u, hu, hr⟩ := He.valsB_ok hv hz
  exact ⟨es, m, u, hl, hk, hu, hr⟩
theorem se (T : Txt w K mg) : SeTxt K (He.ga K "SeenError") := seB_ok (T.x 1 rfl)
theorem xt_TooMany (T : Txt w K mg) : ExT K (He.ga K "TooMany") (He.ma K (He.ga K "TooMany") "__init__") := exTB_ok (T.x 2 rfl)
theorem xn_TooMany_what (T : Txt w K mg) : PySem.W.findIn K (.ref (He.ga K "TooMany")) "what" = some none := of_decide_eq_true (T.x 3 rfl)
theorem xs_TooMany (T : Txt w K mg) : PySem.W.exmOne K (.ref (He.ga K "TooMany")) (.ref (He.ga K "SeenError")) = some true := of_decide_eq_true (T.x 4 rfl)
theorem xk_TooMany_TooMany (T : Txt w K mg) : PySem.W.kitOne K (.ref (He.ga K "TooMany")) (.ref (He.ga K "TooMany")) = some true := of_decide_eq_true (T.x 5 rfl)
theorem xk_TooMany_BadSetting (T : Txt w K mg) : PySem.W.kitOne K (.ref (He.ga K "TooMany")) (.ref (He.ga K "BadSetting")) = some false := of_decide_eq_true (T.x 6 rfl)
theorem xk_TooMany_BadCalls (T : Txt w K mg) : PySem.W.kitOne K (.ref (He.ga K "TooMany")) (.ref (He.ga K "BadCalls")) = some false := of_decide_eq_true (T.x 7 rfl)
theorem xk_TooMany_BadOffers (T : Txt w K mg) : PySem.W.kitOne K (.ref (He.ga K "TooMany")) (.ref (He.ga K "BadOffers")) = some false := of_decide_eq_true (T.x 8 rfl)
theorem xk_TooMany_BadReport (T : Txt w K mg) : PySem.W.kitOne K (.ref (He.ga K "TooMany")) (.ref (He.ga K "BadReport")) = some false := of_decide_eq_true (T.x 9 rfl)
theorem xk_TooMany_BadWeather (T : Txt w K mg) : PySem.W.kitOne K (.ref (He.ga K "TooMany")) (.ref (He.ga K "BadWeather")) = some false := of_decide_eq_true (T.x 10 rfl)
theorem xk_TooMany_BadDay (T : Txt w K mg) : PySem.W.kitOne K (.ref (He.ga K "TooMany")) (.ref (He.ga K "BadDay")) = some false := of_decide_eq_true (T.x 11 rfl)
theorem xk_TooMany_BadRow (T : Txt w K mg) : PySem.W.kitOne K (.ref (He.ga K "TooMany")) (.ref (He.ga K "BadRow")) = some false := of_decide_eq_true (T.x 12 rfl)
theorem xk_TooMany_NotKept (T : Txt w K mg) : PySem.W.kitOne K (.ref (He.ga K "TooMany")) (.ref (He.ga K "NotKept")) = some false := of_decide_eq_true (T.x 13 rfl)
theorem xv_TooMany (T : Txt w K mg) : PySem.W.kitOne K (.ref (He.ga K "TooMany")) (.type "ValueError") = some true := of_decide_eq_true (T.x 14 rfl)
theorem xt_BadSetting (T : Txt w K mg) : ExT K (He.ga K "BadSetting") (He.ma K (He.ga K "BadSetting") "__init__") := exTB_ok (T.x 15 rfl)
theorem xn_BadSetting_what (T : Txt w K mg) : PySem.W.findIn K (.ref (He.ga K "BadSetting")) "what" = some none := of_decide_eq_true (T.x 16 rfl)
theorem xs_BadSetting (T : Txt w K mg) : PySem.W.exmOne K (.ref (He.ga K "BadSetting")) (.ref (He.ga K "SeenError")) = some true := of_decide_eq_true (T.x 17 rfl)
theorem xk_BadSetting_TooMany (T : Txt w K mg) : PySem.W.kitOne K (.ref (He.ga K "BadSetting")) (.ref (He.ga K "TooMany")) = some false := of_decide_eq_true (T.x 18 rfl)
theorem xk_BadSetting_BadSetting (T : Txt w K mg) : PySem.W.kitOne K (.ref (He.ga K "BadSetting")) (.ref (He.ga K "BadSetting")) = some true := of_decide_eq_true (T.x 19 rfl)
theorem xk_BadSetting_BadCalls (T : Txt w K mg) : PySem.W.kitOne K (.ref (He.ga K "BadSetting")) (.ref (He.ga K "BadCalls")) = some false := of_decide_eq_true (T.x 20 rfl)
theorem xk_BadSetting_BadOffers (T : Txt w K mg) : PySem.W.kitOne K (.ref (He.ga K "BadSetting")) (.ref (He.ga K "BadOffers")) = some false := of_decide_eq_true (T.x 21 rfl)
theorem xk_BadSetting_BadReport (T : Txt w K mg) : PySem.W.kitOne K (.ref (He.ga K "BadSetting")) (.ref (He.ga K "BadReport")) = some false := of_decide_eq_true (T.x 22 rfl)
theorem xk_BadSetting_BadWeather (T : Txt w K mg) : PySem.W.kitOne K (.ref (He.ga K "BadSetting")) (.ref (He.ga K "BadWeather")) = some false := of_decide_eq_true (T.x 23 rfl)
theorem xk_BadSetting_BadDay (T : Txt w K mg) : PySem.W.kitOne K (.ref (He.ga K "BadSetting")) (.ref (He.ga K "BadDay")) = some false := of_decide_eq_true (T.x 24 rfl)
theorem xk_BadSetting_BadRow (T : Txt w K mg) : PySem.W.kitOne K (.ref (He.ga K "BadSetting")) (.ref (He.ga K "BadRow")) = some false := of_decide_eq_true (T.x 25 rfl)
theorem xk_BadSetting_NotKept (T : Txt w K mg) : PySem.W.kitOne K (.ref (He.ga K "BadSetting")) (.ref (He.ga K "NotKept")) = some false := of_decide_eq_true (T.x 26 rfl)
theorem xv_BadSetting (T : Txt w K mg) : PySem.W.kitOne K (.ref (He.ga K "BadSetting")) (.type "ValueError") = some true := of_decide_eq_true (T.x 27 rfl)
theorem xt_BadCalls (T : Txt w K mg) : ExT K (He.ga K "BadCalls") (He.ma K (He.ga K "BadCalls") "__init__") := exTB_ok (T.x 28 rfl)
theorem xn_BadCalls_row (T : Txt w K mg) : PySem.W.findIn K (.ref (He.ga K "BadCalls")) "row" = some none := of_decide_eq_true (T.x 29 rfl)
theorem xs_BadCalls (T : Txt w K mg) : PySem.W.exmOne K (.ref (He.ga K "BadCalls")) (.ref (He.ga K "SeenError")) = some true := of_decide_eq_true (T.x 30 rfl)
theorem xk_BadCalls_TooMany (T : Txt w K mg) : PySem.W.kitOne K (.ref (He.ga K "BadCalls")) (.ref (He.ga K "TooMany")) = some false := of_decide_eq_true (T.x 31 rfl)
theorem xk_BadCalls_BadSetting (T : Txt w K mg) : PySem.W.kitOne K (.ref (He.ga K "BadCalls")) (.ref (He.ga K "BadSetting")) = some false := of_decide_eq_true (T.x 32 rfl)
theorem xk_BadCalls_BadCalls (T : Txt w K mg) : PySem.W.kitOne K (.ref (He.ga K "BadCalls")) (.ref (He.ga K "BadCalls")) = some true := of_decide_eq_true (T.x 33 rfl)
theorem xk_BadCalls_BadOffers (T : Txt w K mg) : PySem.W.kitOne K (.ref (He.ga K "BadCalls")) (.ref (He.ga K "BadOffers")) = some false := of_decide_eq_true (T.x 34 rfl)
theorem xk_BadCalls_BadReport (T : Txt w K mg) : PySem.W.kitOne K (.ref (He.ga K "BadCalls")) (.ref (He.ga K "BadReport")) = some false := of_decide_eq_true (T.x 35 rfl)
theorem xk_BadCalls_BadWeather (T : Txt w K mg) : PySem.W.kitOne K (.ref (He.ga K "BadCalls")) (.ref (He.ga K "BadWeather")) = some false := of_decide_eq_true (T.x 36 rfl)
theorem xk_BadCalls_BadDay (T : Txt w K mg) : PySem.W.kitOne K (.ref (He.ga K "BadCalls")) (.ref (He.ga K "BadDay")) = some false := of_decide_eq_true (T.x 37 rfl)
theorem xk_BadCalls_BadRow (T : Txt w K mg) : PySem.W.kitOne K (.ref (He.ga K "BadCalls")) (.ref (He.ga K "BadRow")) = some false := of_decide_eq_true (T.x 38 rfl)
theorem xk_BadCalls_NotKept (T : Txt w K mg) : PySem.W.kitOne K (.ref (He.ga K "BadCalls")) (.ref (He.ga K "NotKept")) = some false := of_decide_eq_true (T.x 39 rfl)
theorem xv_BadCalls (T : Txt w K mg) : PySem.W.kitOne K (.ref (He.ga K "BadCalls")) (.type "ValueError") = some true := of_decide_eq_true (T.x 40 rfl)
theorem tabs_nodup (T : Txt w K mg) : (tf.map fun p => (He.cT K p).2).Nodup := of_decide_eq_true (T.x 41 rfl)
theorem Txt.dl (T : Txt w K mg) (i j : Nat) {d : He.DefD} (hd : d.dfl = []) (hk : d.kwd = []) (h : fn[i]? = some d) (x : Str) (hx : d.at_ = (x, none)) (hg : fa[j]? = some (.glo x)) : ∃ f fd, FunD K d.name d.qual d.params d.body d.scope [] [] f fd ∧ mg x = some (.ref f) ∧ fd.code = .ref (He.codeOf K (x, none)) := by
  obtain ⟨h0, X, G, c⟩ := T.ex
  obtain ⟨fd, F⟩ := c.t.d.defs (List.mem_of_getElem? h)
  have e1 : d.dvs K = [] := by unfold He.DefD.dvs; rw [hd]; rfl
  have e2 : d.kws K = [] := by unfold He.DefD.kws; rw [hk]; rfl
  rw [e1, e2, hx] at F
  refine ⟨_, fd, F, He.glo_ok X G (c.t.d.facts (List.mem_of_getElem? hg)), ?_⟩
  obtain ⟨oc, od, dV, kV, doc, pm, an, cdv, ct, osl, e, lk, hcd, _, _⟩ := F.ex
  have e3 : fd.code = cdv := by rw [e]
  rw [e3]
  cases cdv with
  | ref a => rw [He.codeOf_eq lk e3]
  | _ => cases hcd
theorem fl__law_k16_good (T : Txt w K mg) : ∃ f fd, FnP K "_law_k16_good" s__law_k16_good f fd ∧ mg "_law_k16_good" = some (.ref f) ∧ fd.code = .ref (He.codeOf K ("_law_k16_good", none)) := T.dl 27 27 (d := d__law_k16_good) rfl rfl rfl "_law_k16_good" rfl rfl
theorem fl__law_k16_served (T : Txt w K mg) : ∃ f fd, FnP K "_law_k16_served" s__law_k16_served f fd ∧ mg "_law_k16_served" = some (.ref f) ∧ fd.code = .ref (He.codeOf K ("_law_k16_served", none)) := T.dl 28 28 (d := d__law_k16_served) rfl rfl rfl "_law_k16_served" rfl rfl
theorem fl__law_k16_refused (T : Txt w K mg) : ∃ f fd, FnP K "_law_k16_refused" s__law_k16_refused f fd ∧ mg "_law_k16_refused" = some (.ref f) ∧ fd.code = .ref (He.codeOf K ("_law_k16_refused", none)) := T.dl 29 29 (d := d__law_k16_refused) rfl rfl rfl "_law_k16_refused" rfl rfl
theorem fl_law (T : Txt w K mg) : ∃ f fd, FnP K "law" s_law f fd ∧ mg "law" = some (.ref f) ∧ fd.code = .ref (He.codeOf K ("law", none)) := T.dl 30 30 (d := d_law) rfl rfl rfl "law" rfl rfl
end
end K16
end
section
set_option maxRecDepth 100000
set_option maxHeartbeats 0
namespace K16
open PySem PySem.W PySem.Calls PySem.Spec PyProof.Rows L2
abbrev R : PySem.W.OpenRow := PySem.W.OpenLaw.row PySem.Challenge.rw_seenenough_k16_fewest_visits_and_served
def loose1 : List PySem.Str := ["SeenError", "TooMany", "BadWeather", "BadReport", "BadSetting", "BadCalls", "BadOffers", "BadRow", "NotKept", "BadDay", "LIMITS", "check", "is_served", "first_unserved", "check_reach", "unserved_day", "fewest_visits", "record_days", "common_needs", "sight_of"]
def loose2 : List PySem.Str := ["_law_e_error", "_law_e_refused", "_law_e_spoil", "_law_e_twice", "_law_e_drawn_needs", "_law_e_serves", "_law_e_unserved", "_law_e_records", "_law_e_subsets", "_law_stock", "_law_draw", "_law_mix", "_law_matches", "_law_k16_sights", "_law_k16_low", "_law_k16_visits", "_law_k16_fewest", "_law_k16_apart", "_law_k16_good", "_law_k16_served", "_law_k16_refused"]
theorem run (w : World) : HandSHeadRun.RunEq R (PySem.W.view R.prog [47]) hk ob 20000 (loose1 ++ loose2) w := by
  refine byRow2 "special-get-raises" (P := fun w => HandSHeadRun.RunEq R (PySem.W.view R.prog [47]) hk ob 20000 (loose1 ++ loose2) w) (fun w => ?_) (fun w => ?_) w
  · intro os
    kernel_rfl
  · intro os
    kernel_rfl
end K16
end
section
set_option maxRecDepth 100000
set_option maxHeartbeats 4000000
namespace K16
open PySem PySem.Spec PyProof.Rows L2
section
variable {P : Program} {w : World} {K : PySem.W.Frag} {mg : Str → Option Value} {base : Heap}
abbrev cTM (K : PySem.W.Frag) : Addr := He.ga K "TooMany"
abbrev cBS (K : PySem.W.Frag) : Addr := He.ga K "BadSetting"
abbrev cBC (K : PySem.W.Frag) : Addr := He.ga K "BadCalls"
theorem x_TooMany (T : Txt w K mg) : XOk P w K mg base 1 "TooMany" (cTM K) ["self", "what"] (spInit (cTM K) "what") := by
  obtain ⟨fd, F⟩ := fi_TooMany T
  refine ⟨_, fd, xt_TooMany T, F.ok (CX := CX0) sc_TooMany___init__ (fun vs H Q E h => ?_) (fun cdv A outer s H vs Q E hr h => ?_), g_TooMany T, F.bindsN (fun _ _ _ _ _ _ us hl => match us, hl with | [_, _], _ => rfl)⟩
  · obtain ⟨a, v, rfl, _⟩ := h
    rfl
  · obtain ⟨a, v, rfl, ha, k⟩ := h
    refine ⟨_, PSs.nox (pss_cons (ps_expr (pe_seinit (se T) rfl (g_SeenError T) (pa_cons (pv 0) (pa_cons pe_str pa_nil))))
      (pss_one (ps_ost (pv 0) (pv 1)))), ?_⟩
    refine ⟨_, rfl, a, cTM K, [.str _], rfl, (by show 1 ≤ 1000; decide), (xt_TooMany T).oex, ha, ?_⟩
    exact ⟨_, rfl, _, rfl, a, cTM K, rfl, (xt_TooMany T).oex, xn_TooMany_what T, .inl ⟨ha, fun dx hd hne => k dx hd hne⟩⟩
def spCheck (K : PySem.W.Frag) : Sp := fun vs H Q E => ∃ (z : Str) (n m : Int), vs = [.str z, .int n] ∧ (z, He.Dv.int m) ∈ limits ∧ (n ≤ m → Q .non H) ∧ (m < n → Rz E H (cTM K) "what" (.str z))
theorem ok_check (T : Txt w K mg) : Ok P w K mg base (L2.CX P w) 4 "check" ["what", "number"] (spCheck K) := by
  refine Ok.defX (f_check T) (fun _ _ _ _ _ _ us hl => match us, hl with | [_, _], _ => rfl) sc_check (fun vs H Q E h => ?_) (fun f cdv A outer s H vs Q E hr h tk => ?_)
  · obtain ⟨z, n, m, rfl, _⟩ := h
    rfl
  · obtain ⟨z, n, m, rfl, hz, k1, k2⟩ := h
    refine ⟨_, (pss_one (ps_if (pt_cmpR op_gt (pv 1) (pe_ix ix_kdict (pe_glob (v := .ref _) rfl (g_LIMITS T) rfl) (pv 0) (fun _ _ => rfl)) (nomark _)) (pss_one (ps_raise rfl tk (pmk_x (x_TooMany T) (hr.mono (by decide)) rfl (pa_cons (pv 0) pa_nil)))) pss_nil)), ?_⟩
    refine ⟨_, rfl, _, rfl, _, z, .int m, rfl, rfl, lim T hz, _, _, rfl, rfl, _, rfl, ?_⟩
    refine ite2 (fun c => ?_) (fun c => ?_)
    · exact ⟨_, rfl, mko ((k2 (of_decide_eq_true c)).at (Same.refl H))⟩
    · exact k1 (by simpa using c)
end
end K16
end
section
set_option maxRecDepth 100000
set_option maxHeartbeats 4000000
namespace K16
open PySem PySem.Spec PyProof.Rows L2
section
variable {P : Program} {w : World} {K : PySem.W.Frag} {mg : Str → Option Value} {base : Heap}
/-! ### draws -/
abbrev stk (a b c : Int) : HO := .lst [.int a, .int b, .int c]
def Stk (H : Hp) (sa : Addr) : Prop := ∃ a b c, H sa = some (stk a b c)
theorem fmod_range (a : Int) {m : Int} (h : 0 < m) : 0 ≤ a.fmod m ∧ a.fmod m < m := by
  rw [Int.fmod_eq_emod_of_nonneg a (Int.le_of_lt h)]
  exact ⟨Int.emod_nonneg _ (by omega), Int.emod_lt_of_pos _ h⟩
def spDraw : Sp := fun vs H Q _ => ∃ (sa : Addr) (m : Int), vs = [.ref sa, .int m] ∧ 0 < m ∧ m < 1073741824 ∧ Stk H sa ∧ ∀ r a b c, 0 ≤ r → r < m → Q (.int r) (upd H sa (stk a b c))
theorem ok__law_draw (T : Txt w K mg) : Ok P w K mg base CX0 1 "_law_draw" ["stock", "many"] spDraw := by
  refine Ok.def0 (f__law_draw T) (fun _ _ _ _ _ _ us hl => match us, hl with | [_, _], _ => rfl) sc__law_draw (fun vs H Q E h => ?_) (fun f cdv A outer s H vs Q E hr h => ?_)
  · obtain ⟨sa, m, rfl, _⟩ := h
    rfl
  · obtain ⟨sa, m, rfl, h0, h1, ⟨a, b, c, hs⟩, k⟩ := h
    have hm : m ≠ 0 := by omega
    refine ⟨_, (pss_cons (ps_if (pt_cmpR op_gt (pe_ix (ix_listK (K := K) rfl) (pv 0) pe_int (fun _ _ => rfl)) pe_int (nomark _)) (pss_cons (ps_set (i := 2) sc__law_draw.nd rfl (by first | exact Or.inl rfl | exact Or.inr rfl) (pe_op op_modN (pe_callTy call_int1 rfl (n_int T) (by decide +kernel) (pa_cons (pe_ix (ix_listK (K := K) rfl) (pv 0) pe_int (fun _ _ => rfl)) pa_nil)) (pv 1)))
      (pss_cons (ps_asg (pe_op op_fdivN (pe_ix (ix_listK (K := K) rfl) (pv 0) pe_int (fun _ _ => rfl)) (pv 1)) (pg_sub (pv 0) pe_int set_list))
      (pss_one (ps_ret (pv 2))))) pss_nil)
      (pss_cons (ps_augS (pv 0) pe_int (get_listK (K := K) rfl) pe_int ip_add set_list)
      (pss_cons (ps_asg (pe_op op_modN (pe_callTy call_int1 rfl (n_int T) (by decide +kernel) (pa_cons (pe_op op_add (pe_op op_mul (pe_ix (ix_listK (K := K) rfl) (pv 0) pe_int (fun _ _ => rfl)) pe_int) (pe_op op_mul (pe_ix (ix_listK (K := K) rfl) (pv 0) pe_int (fun _ _ => rfl)) pe_int)) pa_nil)) pe_int) (pg_sub (pv 0) pe_int set_list))
      (pss_one (ps_ret (pe_op op_modN (pe_op op_fdivN (pe_op op_modN (pe_callTy call_int1 rfl (n_int T) (by decide +kernel) (pa_cons (pe_op op_add (pe_op op_mul (pe_ix (ix_listK (K := K) rfl) (pv 0) pe_int (fun _ _ => rfl)) pe_int) (pe_op op_mul (pe_ix (ix_listK (K := K) rfl) (pv 0) pe_int (fun _ _ => rfl)) pe_int)) pa_nil)) pe_int) pe_int) (pv 1))))))), ?_⟩
    refine ⟨_, rfl, sa, _, 0, _, rfl, rfl, SqL.of hs, rfl, _, _, rfl, rfl, _, rfl, ?_⟩
    refine ite2 (fun c1 => ?_) (fun c1 => ?_)
    · refine ⟨_, rfl, sa, _, 0, _, rfl, rfl, SqL.of hs, rfl, .inl ⟨_, rfl, _, rfl, _, _, rfl, rfl, hm, ?_⟩⟩
      refine ⟨_, rfl, sa, _, 0, _, rfl, rfl, SqL.of hs, rfl, _, rfl, _, _, rfl, rfl, ⟨hm, by omega⟩, _, rfl, sa, _, 0, 0, rfl, rfl, hs, rfl, ?_⟩
      refine ⟨_, rfl, k _ _ _ _ (fmod_range a h0).1 (fmod_range a h0).2⟩
    · refine ⟨_, rfl, sa, _, 2, _, rfl, rfl, SqL.of hs, rfl, _, _, rfl, rfl, sa, _, 2, 2, rfl, rfl, hs, rfl, ?_⟩
      refine ⟨_, rfl, sa, _, 1, _, rfl, rfl, SqL.of upd_same, rfl, _, _, rfl, rfl, .inr (by decide), _, rfl, sa, _, 2, _, rfl, rfl, SqL.of upd_same, rfl, _, _, rfl, rfl, .inr (by decide), _, _, rfl, rfl, .inl ⟨_, rfl, _, _, rfl, rfl, (by show (2147483647 : Int) ≠ 0; decide), _, rfl, sa, _, 1, 1, rfl, rfl, upd_same, rfl, ?_⟩⟩
      refine ⟨_, rfl, sa, _, 1, _, rfl, rfl, SqL.of upd_same, rfl, _, _, rfl, rfl, .inr (by decide), _, rfl, sa, _, 2, _, rfl, rfl, SqL.of upd_same, rfl, _, _, rfl, rfl, .inr (by decide), _, _, rfl, rfl, .inl ⟨_, rfl, _, _, rfl, rfl, (by show (2147483629 : Int) ≠ 0; decide), _, _, rfl, rfl, ⟨by decide, by decide⟩, _, rfl, _, _, rfl, rfl, hm, ?_⟩⟩
      rw [upd_upd]
      exact k _ _ _ _ (fmod_range _ h0).1 (fmod_range _ h0).2
end
end K16
end
section
set_option maxRecDepth 100000
set_option maxHeartbeats 4000000
namespace K16
open PySem PySem.Spec PyProof.Rows L2
section
variable {P : Program} {w : World} {K : PySem.W.Frag} {mg : Str → Option Value} {base : Heap}
def spStock (K : PySem.W.Frag) : Sp := fun vs H Q _ => ∃ (a : Addr) (ns : List Int) (at_ : Int), vs = [.ref a, .int at_] ∧ SqL K H a (ns.map V.int) ∧ ns.length ≤ 63 ∧ 0 ≤ at_ ∧ at_ ≤ 100 ∧
  ∀ p H', H p = none → Same H H' → Stk H' p → Q (.ref p) H'
theorem ok__law_stock (T : Txt w K mg) : Ok P w K mg base CX0 1 "_law_stock" ["script", "at"] (spStock K) := by
  refine Ok.def0 (f__law_stock T) (fun _ _ _ _ _ _ us hl => match us, hl with | [_, _], _ => rfl) sc__law_stock (fun vs H Q E h => ?_) (fun f cdv A outer s H vs Q E hr h => ?_)
  · obtain ⟨a, ns, z, rfl, _⟩ := h
    rfl
  · obtain ⟨a, ns, z, rfl, hS, hl, h0, h1, k⟩ := h
    refine ⟨_, (pss_cons (ps_set (i := 3) sc__law_stock.nd rfl (by first | exact Or.inl rfl | exact Or.inr rfl) (pe_ifExp (pt_cmpR op_lt (pv 1) (pe_callB (len_seqK (K := K) rfl) rfl (n_len T) (by decide +kernel) (pa_cons (pv 0) pa_nil)) (nomark _)) (pe_callTy call_int1 rfl (n_int T) (by decide +kernel) (pa_cons (pe_ix (ix_listK (K := K) rfl) (pv 0) (pv 1) (fun _ _ => rfl)) pa_nil)) (pe_op op_mul pe_int (pe_callB (sumK (K := K) rfl rfl) rfl (n_sum T) (by decide +kernel) (pa_cons (pe_lc (own := [("one", 2)]) rfl sc__law_stock.nd (pi_listK (K := K) rfl (pe_slice (sl_listK (K := K) rfl) (pv 0) po_none (po_some pe_int))) (blkOk_by (N := ["script", "at", "one", "cell", "size", "small"]) (sc := defScope s__law_stock) (by decide +kernel)) (fun _ _ _ _ _ => (pg_name (i := 2) sc__law_stock.nd rfl (by first | exact Or.inl rfl | exact Or.inr rfl))) (fun _ _ _ _ _ => pts_nil) (fun _ _ _ _ _ => (pe_op op_modN (pe_callTy call_int1 rfl (n_int T) (by decide +kernel) (pa_cons (pv 2) pa_nil)) pe_int))) pa_nil)))))
      (pss_cons (ps_set (i := 4) sc__law_stock.nd rfl (by first | exact Or.inl rfl | exact Or.inr rfl) (pe_callB call_abs rfl (n_abs T) (by decide +kernel) (pa_cons (pv 3) pa_nil)))
      (pss_cons (ps_set (i := 5) sc__law_stock.nd rfl (by first | exact Or.inl rfl | exact Or.inr rfl) (pe_op op_modN (pe_callTy call_int1 rfl (n_int T) (by decide +kernel) (pa_cons (pe_op op_add (pe_op op_add (pe_op op_add (pe_op op_mul pe_int (pv 4)) (pe_ifExp (pt_cmpR op_lt (pv 3) pe_int (nomark _)) pe_int pe_int)) (pe_op op_mul (pv 1) pe_int)) pe_int) pa_nil)) pe_int))
      (pss_one (ps_ret (pe_lst (pa_cons (pe_ifExp (pt_cmpR op_ge (pv 4) (pe_op op_pow pe_int pe_int) (nomark _)) (pv 4) pe_int) (pa_cons (pe_op op_modN (pe_callTy call_int1 rfl (n_int T) (by decide +kernel) (pa_cons (pe_op op_mul (pe_op op_add (pv 5) pe_int) (pe_op op_add (pv 5) pe_int)) pa_nil)) pe_int) (pa_cons (pv 1) pa_nil))))))))), ?_⟩
    refine st_let (fun v H' => ∃ c, v = .int c ∧ Same H H') (fun R hR => ?_) (fun v H1 hv => ?_)
    · refine ⟨_, rfl, _, rfl, _, _, rfl, .inl hS, _, _, rfl, rfl, _, rfl, ?_⟩
      refine ite2 (fun c1 => ?_) (fun c1 => ?_)
      · have c2 : z < (ns.map V.int).length := of_decide_eq_true c1
        rw [ints_len] at c2
        obtain ⟨n, hn⟩ : ∃ n, ns[z.toNat]? = some n := ⟨ns[z.toNat]'(by omega), List.getElem?_eq_getElem (by omega)⟩
        exact ⟨_, rfl, _, rfl, a, _, z, _, rfl, rfl, hS, atI_int h0 (ints_at hn), .inl ⟨_, rfl, hR _ _ ⟨_, rfl, Same.refl H⟩⟩⟩
      · obtain ⟨ms, e1, e2⟩ := cutV_map V.int ns none (some 4)
        refine ⟨_, rfl, _, rfl, a, _, rfl, hS, fun p hp => ?_⟩
        rw [e1]
        have s1 : Same H (upd H p (.lst (ms.map V.int))) := same_new hp
        refine ⟨p, rfl, ⟨_, SqL.of upd_same⟩, fun D hD => lc_acc (K := K) (a := p) (xs := ms.map V.int) hD (SqL.of upd_same) (by rw [ints_len, e2]; exact Nat.lt_of_le_of_lt (List.length_take_le' _ _) (by rw [List.length_drop]; omega)) (fun i acc H' => ∃ zs : List Int, acc = zs.map V.int) (fun _ _ => ⟨[], rfl⟩) ?_ ?_⟩
        · rintro i x acc H' N N0 hx s2 hacc ⟨zs, rfl⟩ hN hN0
          obtain ⟨y, hy, rfl⟩ := ints_get hx
          refine ⟨rfl, ?_⟩
          exact ⟨_, rfl, .inl ⟨_, rfl, _, _, rfl, rfl, (by show (1000003 : Int) ≠ 0; decide), hN _ _ (Same.refl _) fun _ _ _ => ⟨zs ++ [y.fmod 1000003], by rw [List.map_append]; rfl⟩⟩⟩
        · rintro acc H' s2 hacc _ ⟨zs, rfl⟩
          exact ⟨D, zs, rfl, SqL.of hacc, _, _, rfl, rfl, .inl (by decide), hR _ _ ⟨_, rfl, s1.trans s2⟩⟩
    · obtain ⟨c, rfl, s1⟩ := hv
      -- size = abs(cell)
      refine ⟨_, rfl, _, rfl, ?_⟩
      generalize hsz : (if c < 0 then -c else c) = size
      -- small = ..
      refine nxE (st_let (fun v H' => ∃ d : Int, v = .int d ∧ 0 ≤ d ∧ d < 2147483629 ∧ H' = H1) (fun R hR => ?_) (fun v H2 hv => ?_))
      · refine ⟨_, rfl, _, _, rfl, rfl, .inl (by decide), ?_⟩
        have fin : ∀ k : Int, R (.int ((2 * size + k + z * 104729 + 12345).fmod 2147483629)) H1 := fun k => hR _ _ ⟨_, rfl, (fmod_range _ (by decide)).1, (fmod_range _ (by decide)).2, rfl⟩
        refine ⟨_, rfl, _, _, rfl, rfl, _, rfl, ?_⟩
        refine ite2 (fun c1 => ?_) (fun c1 => ?_)
        · exact ⟨_, _, rfl, rfl, _, rfl, _, _, rfl, rfl, .inr (by decide), _, _, rfl, rfl, _, _, rfl, rfl, .inl ⟨_, rfl, _, _, rfl, rfl, (by show (2147483629 : Int) ≠ 0; decide), fin 1⟩⟩
        · exact ⟨_, _, rfl, rfl, _, rfl, _, _, rfl, rfl, .inr (by decide), _, _, rfl, rfl, _, _, rfl, rfl, .inl ⟨_, rfl, _, _, rfl, rfl, (by show (2147483629 : Int) ≠ 0; decide), fin 0⟩⟩
      · obtain ⟨d, rfl, d0, d1, rfl⟩ := hv
        -- return [..]
        have fin : ∀ e : Int, ∀ p, H2 p = none → Q (.ref p) (upd H2 p (.lst [.int e, .int (((d + 7919) * (d + 104729)).fmod 2147483629), .int z])) := fun e p hp => k p _ (s1.free hp) (s1.trans (same_new hp)) ⟨_, _, _, upd_same⟩
        refine ⟨_, rfl, _, _, rfl, rfl, ⟨by decide, by decide, by decide⟩, _, _, rfl, rfl, _, rfl, ?_⟩
        refine ite2 (fun c1 => ?_) (fun c1 => ?_)
        · exact ⟨_, rfl, _, rfl, _, _, rfl, rfl, _, rfl, _, _, rfl, rfl, _, _, rfl, rfl, .inl ⟨by show -(2 ^ 64) < d + 7919; omega, by show d + 7919 < 2 ^ 64; omega⟩, .inl ⟨_, rfl, _, _, rfl, rfl, (by show (2147483629 : Int) ≠ 0; decide), _, rfl, (by show 3 ≤ sizeLine; decide), fun p hp => fin _ p hp⟩⟩
        · exact ⟨_, rfl, _, _, rfl, rfl, _, rfl, _, _, rfl, rfl, _, _, rfl, rfl, .inl ⟨by show -(2 ^ 64) < d + 7919; omega, by show d + 7919 < 2 ^ 64; omega⟩, .inl ⟨_, rfl, _, _, rfl, rfl, (by show (2147483629 : Int) ≠ 0; decide), _, rfl, (by show 3 ≤ sizeLine; decide), fun p hp => fin _ p hp⟩⟩
end
end K16
end
section
set_option maxRecDepth 100000
set_option maxHeartbeats 4000000
namespace K16
open PySem PySem.Spec PyProof.Rows L2
/-! ### what is computed -/
def served (d n : Int) (c : Int × Int) : Bool := decide (n = 0) || (decide (c.1 ≤ d) && decide (n ≤ c.1 + c.2))
/-- the first day, from d on, of which no call serves a need above 0 -/
def uns (cs : List (Int × Int)) : Int → List Int → Int
  | _, [] => 0
  | d, n :: r => if 0 < n ∧ cs.any (served d n) = false then d else uns cs (d + 1) r
section
variable {P : Program} {w : World} {K : PySem.W.Frag} {mg : Str → Option Value} {base : Heap}
def spServed : Sp := fun vs H Q _ => ∃ d n a r : Int, vs = [.int d, .int n, .int a, .int r] ∧ Q (.bl (served d n (a, r))) H
theorem ok_is_served (T : Txt w K mg) : Ok P w K mg base CX0 1 "is_served" ["day", "need", "call_day", "reach"] spServed := by
  refine Ok.def0 (f_is_served T) (fun _ _ _ _ _ _ us hl => match us, hl with | [_, _, _, _], _ => rfl) sc_is_served (fun vs H Q E h => ?_) (fun f cdv A outer s H vs Q E hr h => ?_)
  · obtain ⟨d, n, a, r, rfl, _⟩ := h
    rfl
  · obtain ⟨d, n, a, r, rfl, k⟩ := h
    refine ⟨_, (pss_one (ps_ret (pe_or (pe_cmpR op_eq (pv 1) pe_int (nomark _)) (pe_one (pe_and (pe_cmpR op_le (pv 2) (pv 0) (nomark _)) (pe_one (pe_cmpR op_ge (pe_op op_add (pv 2) (pv 3)) (pv 1) (nomark _)))))))), ?_⟩
    have k : Q (.bl (decide (n = 0) || (decide (a ≤ d) && decide (n ≤ a + r)))) H := k
    refine ⟨_, rfl, rfl, _, rfl, ?_⟩
    have e0 : decide (V.int n = V.int 0) = decide (n = 0) := by simp
    rw [e0]
    cases q0 : decide (n = 0) with
    | true =>
      rw [q0] at k
      exact iteT k
    | false =>
      rw [q0] at k
      refine ⟨_, rfl, _, rfl, _, _, rfl, rfl, _, rfl, ?_⟩
      cases q : decide (a ≤ d) with
      | false =>
        rw [q] at k
        exact iteF k
      | true =>
        rw [q] at k
        exact ⟨_, rfl, _, rfl, _, _, rfl, rfl, _, rfl, _, _, rfl, rfl, k⟩
def spServes (K : PySem.W.Frag) : Sp := fun vs H Q _ => ∃ (x : V) (c : Int × Int) (d n : Int), vs = [x, .int d, .int n] ∧ PairR K H x c ∧ Q (.bl (served d n c)) H
theorem ok__law_e_serves (T : Txt w K mg) : Ok P w K mg base CX0 1 "_law_e_serves" ["call", "day", "need"] (spServes K) := by
  refine Ok.def0 (f__law_e_serves T) (fun _ _ _ _ _ _ us hl => match us, hl with | [_, _, _], _ => rfl) sc__law_e_serves (fun vs H Q E h => ?_) (fun f cdv A outer s H vs Q E hr h => ?_)
  · obtain ⟨x, c, d, n, rfl, _⟩ := h
    rfl
  · obtain ⟨x, c, d, n, rfl, hx, k⟩ := h
    refine ⟨_, (pss_one (ps_ret (pe_or (pe_cmpR op_eq (pv 2) pe_int (nomark _)) (pe_one (pe_and (pe_cmpR op_le (pe_ix (ix_seqK (K := K) rfl) (pv 0) pe_int (fun _ _ => rfl)) (pv 1) (nomark _)) (pe_one (pe_cmpR op_ge (pe_op op_add (pe_ix (ix_seqK (K := K) rfl) (pv 0) pe_int (fun _ _ => rfl)) (pe_ix (ix_seqK (K := K) rfl) (pv 0) pe_int (fun _ _ => rfl))) (pv 2) (nomark _)))))))), ?_⟩
    have k : Q (.bl (decide (n = 0) || (decide (c.1 ≤ d) && decide (n ≤ c.1 + c.2)))) H := k
    refine ⟨_, rfl, rfl, _, rfl, ?_⟩
    have e0 : decide (V.int n = V.int 0) = decide (n = 0) := by simp
    rw [e0]
    cases q0 : decide (n = 0) with
    | true =>
      rw [q0] at k
      exact iteT k
    | false =>
      rw [q0] at k
      refine ⟨_, rfl, hx.ix0 ⟨_, rfl, _, _, rfl, rfl, _, rfl, ?_⟩⟩
      cases q : decide (c.1 ≤ d) with
      | false =>
        rw [q] at k
        exact iteF k
      | true =>
        rw [q] at k
        exact ⟨_, rfl, hx.ix0 ⟨_, rfl, hx.ix1 ⟨_, _, rfl, rfl, _, rfl, _, _, rfl, rfl, k⟩⟩⟩
def spUns (K : PySem.W.Frag) : Sp := fun vs H Q _ => ∃ (a b : Addr) (ns : List Int) (xs : List V) (cs : List (Int × Int)), vs = [.ref a, .ref b] ∧ SqL K H a (ns.map V.int) ∧ SqL K H b xs ∧ PairsR K H xs cs ∧ xs.length ≤ 1000 ∧ ns.length ≤ 1000 ∧
  ∀ H', Same H H' → Q (.int (uns cs 1 ns)) H'
theorem ok_first_unserved (T : Txt w K mg) : Ok P w K mg base CX0 2 "first_unserved" ["needs", "calls"] (spUns K) := by
  refine Ok.def0 (f_first_unserved T) (fun _ _ _ _ _ _ us hl => match us, hl with | [_, _], _ => rfl) sc_first_unserved (fun vs H Q E h => ?_) (fun f cdv A outer s H vs Q E hr h => ?_)
  · obtain ⟨a, b, ns, xs, cs, rfl, _⟩ := h
    rfl
  · obtain ⟨a, b, ns, xs, cs, rfl, ha, hb, hp, hl, hn, k⟩ := h
    refine ⟨_, (pss_cons (ps_for PassesOwn.never rfl (pi_enumS rfl (n_enumerate T) (pa_cons (pv 0) pa_nil) (pk_cons pe_int pk_nil)) (pg_tupK (K := K) rfl rfl (pgs_cons (pg_name (i := 2) sc_first_unserved.nd rfl (by first | exact Or.inl rfl | exact Or.inr rfl)) (pgs_cons (pg_name (i := 3) sc_first_unserved.nd rfl (by first | exact Or.inl rfl | exact Or.inr rfl)) pgs_nil)))
        (pss_one (ps_if (PW.pt (pw_and (pt_cmpR op_gt (pv 3) pe_int (nomark _)) (pw_and1 (pt_not (pt_val (pe_callB (anyK (K := K) rfl rfl) rfl (n_any T) (by decide +kernel) (pa_cons (pe_lc (own := [("call", 4)]) rfl sc_first_unserved.nd (pi_listK (K := K) rfl (pv 1)) (blkOk_by (N := ["needs", "calls", "day", "need", "call"]) (sc := defScope s_first_unserved) (by decide +kernel)) (fun _ _ _ _ _ => (pg_name (i := 4) sc_first_unserved.nd rfl (by first | exact Or.inl rfl | exact Or.inr rfl))) (fun _ _ _ _ _ => pts_nil) (fun _ _ _ _ _ => (pe_ok (ok_is_served T) (hr.mono (by decide)) rfl pass0 (pa_cons (pv 2) (pa_cons (pv 3) (pa_cons (pe_ix (ix_seqK (K := K) rfl) (pv 4) pe_int (fun _ _ => rfl)) (pa_cons (pe_ix (ix_seqK (K := K) rfl) (pv 4) pe_int (fun _ _ => rfl)) pa_nil))))))) pa_nil))))))) (pss_one (ps_ret (pv 2))) pss_nil)))
      (pss_one (ps_ret pe_int))), ?_⟩
    refine ⟨_, rfl, a, _, 1, rfl, rfl, by decide, by decide, ha, for_enumS (K := K) (xs := ns.map V.int) (fun i σ H' => ∃ v2 v3, σ = [some (.ref a), some (.ref b), v2, v3, none] ∧ Same H H' ∧ uns cs 1 ns = uns cs (1 + (i : Nat)) (ns.drop i)) ⟨none, none, rfl, Same.refl H, rfl⟩ (fun i σ H' _ ⟨_, _, _, e, _⟩ => e.seq ha) ?_ ?_⟩
    · rintro i x σ H' t hx ⟨v2, v3, rfl, e, hu⟩ ht
      obtain ⟨n, hn', rfl⟩ := ints_get hx
      have e1 := e.trans (same_new (o := .tup [.int (1 + (i : Nat)), .int n]) ht)
      refine ⟨t, _, rfl, SqT.of upd_same, rfl, _, _, rfl, _, _, rfl, rfl, ?_⟩
      rw [drop_get hn'] at hu
      have step : uns cs (1 + (i : Nat)) (n :: ns.drop (i + 1)) = if 0 < n ∧ cs.any (served (1 + (i : Nat)) n) = false then (1 + ((i : Nat) : Int)) else uns cs (1 + (i : Nat) + 1) (ns.drop (i + 1)) := rfl
      have next : (1 + ((i + 1 : Nat) : Int)) = 1 + (i : Nat) + 1 := by omega
      refine ⟨_, rfl, _, _, rfl, rfl, _, rfl, ?_⟩
      refine ite2 (fun c => ?_) (fun c => ?_)
      · have c := of_decide_eq_true c
        -- any([..])
        refine ⟨_, rfl, b, rfl, ⟨_, e1.seq hb⟩, fun D hD => lc_acc (K := K) (a := b) (xs := xs) hD (e1.seq hb) (by omega) (fun j acc _ => acc = ((cs.take j).map (served (1 + (i : Nat)) n)).map V.bl) (fun _ _ => rfl) ?_ ?_⟩
        · rintro j y acc H2 N N0 hy s2 hacc rfl hN hN0
          obtain ⟨c', hc', hr'⟩ := (hp.same (e1.trans s2)).get hy
          refine ⟨rfl, ?_⟩
          exact ⟨_, rfl, _, rfl, _, rfl, hr'.ix0 ⟨_, rfl, hr'.ix1 ⟨_, _, _, _, rfl, hN _ _ (Same.refl _) fun _ _ _ => by rw [take_get hc', List.map_append, List.map_append]; rfl⟩⟩⟩
        · rintro acc H2 s2 hacc _ rfl
          rw [hp.len, List.take_length] at hacc
          refine ⟨D, _, rfl, SqL.of hacc, _, rfl, ?_⟩
          have ea : (cs.map (served (1 + (i : Nat)) n)).any id = cs.any (served (1 + (i : Nat)) n) := by rw [List.any_map]; rfl
          rw [ea]
          cases q : cs.any (served (1 + (i : Nat)) n) with
          | false =>
            refine ⟨_, rfl, ?_⟩
            rw [step, if_pos ⟨c, q⟩] at hu
            rw [← hu]
            exact k _ (e1.trans s2)
          | true =>
            refine ⟨_, _, rfl, e1.trans s2, ?_⟩
            rw [step, if_neg (fun z => by rw [q] at z; cases z.2)] at hu
            rw [hu, next]
      · refine ⟨_, _, rfl, e1, ?_⟩
        rw [step, if_neg (fun z => c (decide_eq_true z.1))] at hu
        rw [hu, next]
    · rintro σ H' ⟨v2, v3, rfl, e, hu⟩
      rw [ints_len, List.drop_length] at hu
      have hu : uns cs 1 ns = 0 := hu
      rw [hu] at k
      exact k _ e
end
end K16
end
section
set_option maxRecDepth 100000
set_option maxHeartbeats 4000000
namespace K16
open PySem PySem.Spec PyProof.Rows L2
theorem filter_none {α : Type} {p : α → Bool} {l : List α} : (l.filter p).length = 0 ↔ l.any p = false := by
  rw [List.length_eq_zero_iff, List.filter_eq_nil_iff, List.any_eq_false]
/-- days whose need passes all before -/
def recs : Int → Int → List Int → List Int
  | _, _, [] => []
  | d, best, n :: r => if best < n then d :: recs (d + 1) n r else recs (d + 1) best r
theorem recs_len : ∀ (ns : List Int) (d best : Int), (recs d best ns).length ≤ ns.length
  | [], _, _ => Nat.le_refl _
  | n :: r, d, best => by
    unfold recs
    split
    · exact Nat.succ_le_succ (recs_len r _ _)
    · exact Nat.le_succ_of_le (recs_len r _ _)
section
variable {P : Program} {w : World} {K : PySem.W.Frag} {mg : Str → Option Value} {base : Heap}
theorem ok__law_e_unserved (T : Txt w K mg) : Ok P w K mg base CX0 2 "_law_e_unserved" ["needs", "calls"] (spUns K) := by
  refine Ok.def0 (f__law_e_unserved T) (fun _ _ _ _ _ _ us hl => match us, hl with | [_, _], _ => rfl) sc__law_e_unserved (fun vs H Q E h => ?_) (fun f cdv A outer s H vs Q E hr h => ?_)
  · obtain ⟨a, b, ns, xs, cs, rfl, _⟩ := h
    rfl
  · obtain ⟨a, b, ns, xs, cs, rfl, ha, hb, hp, hl, hn, k⟩ := h
    refine ⟨_, (pss_cons (ps_for PassesOwn.never rfl (pi_range2 rfl (n_range T) (pa_cons pe_int (pa_cons (pe_op op_add (pe_callB (len_seqK (K := K) rfl) rfl (n_len T) (by decide +kernel) (pa_cons (pv 0) pa_nil)) pe_int) pa_nil))) (pg_name (i := 2) sc__law_e_unserved.nd rfl (by first | exact Or.inl rfl | exact Or.inr rfl))
        (pss_one (ps_if (PW.pt (pw_and (pt_cmpR op_eq (pe_callB (len_seqK (K := K) rfl) rfl (n_len T) (by decide +kernel) (pa_cons (pe_lc (own := [("call", 3)]) rfl sc__law_e_unserved.nd (pi_listK (K := K) rfl (pv 1)) (blkOk_by (N := ["needs", "calls", "day", "call"]) (sc := defScope s__law_e_unserved) (by decide +kernel)) (fun _ _ _ _ _ => (pg_name (i := 3) sc__law_e_unserved.nd rfl (by first | exact Or.inl rfl | exact Or.inr rfl))) (fun _ _ _ _ _ => pts_one (pt_val (pe_ok (ok__law_e_serves T) (hr.mono (by decide)) rfl pass0 (pa_cons (pv 3) (pa_cons (pv 2) (pa_cons (pe_ix (ix_listK (K := K) rfl) (pv 0) (pe_op op_sub (pv 2) pe_int) (fun _ _ => rfl)) pa_nil)))))) (fun _ _ _ _ _ => (pv 3))) pa_nil)) pe_int (nomark _)) (pw_and1 (pt_cmpR op_gt (pe_ix (ix_listK (K := K) rfl) (pv 0) (pe_op op_sub (pv 2) pe_int) (fun _ _ => rfl)) pe_int (nomark _))))) (pss_one (ps_ret (pv 2))) pss_nil)))
      (pss_one (ps_ret pe_int))), ?_⟩
    refine ⟨_, rfl, _, _, rfl, .inl ha, _, _, rfl, rfl, 1, _, rfl, ⟨by decide, by decide, by rw [ints_len]; omega, by rw [ints_len]; omega⟩,
      for_upto (L := ns.length) (by rw [ints_len]; omega) (fun i σ H' => ∃ v2, σ = [some (.ref a), some (.ref b), v2, none] ∧ Same H H' ∧ uns cs 1 ns = uns cs (1 + (i : Nat)) (ns.drop i)) ⟨none, rfl, Same.refl H, rfl⟩ ?_ ?_⟩
    · rintro i σ H' hi ⟨v2, rfl, e, hu⟩
      obtain ⟨n, hn'⟩ := ints_ix hi
      rw [drop_get hn'] at hu
      have step : uns cs (1 + (i : Nat)) (n :: ns.drop (i + 1)) = if 0 < n ∧ cs.any (served (1 + (i : Nat)) n) = false then (1 + ((i : Nat) : Int)) else uns cs (1 + (i : Nat) + 1) (ns.drop (i + 1)) := rfl
      have next : (1 + ((i + 1 : Nat) : Int)) = 1 + (i : Nat) + 1 := by omega
      have hat : ∀ H2, Same H' H2 → SqL K H2 a (ns.map V.int) := fun H2 s2 => (e.trans s2).seq ha
      -- len([..]) == 0
      refine ⟨_, rfl, b, rfl, ⟨_, e.seq hb⟩, fun D hD => lc_acc (K := K) (a := b) (xs := xs) hD (e.seq hb) (by omega) (fun j acc _ => acc.length = ((cs.take j).filter (served (1 + (i : Nat)) n)).length) (fun _ _ => rfl) ?_ ?_⟩
      · rintro j y acc H2 N N0 hy s2 hacc hacl hN hN0
        obtain ⟨c', hc', hr'⟩ := (hp.same (e.trans s2)).get hy
        refine ⟨rfl, ?_⟩
        refine ⟨_, rfl, _, rfl, _, rfl, _, rfl, _, _, rfl, rfl, a, _, _, _, rfl, rfl, hat _ s2, at_of (by omega) (ints_at hn'), y, c', _, n, rfl, hr', _, rfl, ?_⟩
        have ef : ∀ b, served (1 + (i : Nat)) n c' = b → ((cs.take (j + 1)).filter (served (1 + (i : Nat)) n)).length = ((cs.take j).filter (served (1 + (i : Nat)) n)).length + (if b then 1 else 0) := by
          intro b hb
          rw [take_get hc', List.filter_append, List.length_append]
          congr 1
          rw [List.filter_cons, hb]
          cases b <;> rfl
        cases q : served (1 + (i : Nat)) n c' with
        | true => exact ⟨_, rfl, hN _ _ (Same.refl _) fun _ _ _ => by rw [List.length_append, hacl, ef _ q]; rfl⟩
        | false => exact hN0 _ (Same.refl _) (by rw [hacl, ef _ q]; rfl)
      · rintro acc H2 s2 hacc hal hacl
        rw [hp.len, List.take_length] at hacl
        refine ⟨D, acc, rfl, .inl (SqL.of hacc), rfl, _, rfl, ?_⟩
        refine ite2 (fun c => ?_) (fun c => ?_)
        · have c : acc.length = 0 := by simpa using of_decide_eq_true c
          rw [hacl] at c
          have c := filter_none.mp c
          refine ⟨_, rfl, _, rfl, _, _, rfl, rfl, a, _, _, _, rfl, rfl, hat _ s2, at_of (by omega) (ints_at hn'), _, _, rfl, rfl, _, rfl, ?_⟩
          refine ite2 (fun c2 => ?_) (fun c2 => ?_)
          · refine ⟨_, rfl, ?_⟩
            rw [step, if_pos ⟨of_decide_eq_true c2, c⟩] at hu
            rw [← hu]
            exact k _ (e.trans s2)
          · refine ⟨_, rfl, e.trans s2, ?_⟩
            rw [step, if_neg (fun z => c2 (decide_eq_true z.1))] at hu
            rw [hu, next]
        · have c : ¬ acc.length = 0 := fun z => c (decide_eq_true (by rw [z]; rfl))
          rw [hacl] at c
          refine iteF ⟨_, rfl, e.trans s2, ?_⟩
          rw [step, if_neg (fun z => c (filter_none.mpr z.2))] at hu
          rw [hu, next]
    · rintro σ H' ⟨v2, rfl, e, hu⟩
      rw [List.drop_length] at hu
      have hu : uns cs 1 ns = 0 := hu
      rw [hu] at k
      exact k _ e
end
end K16
end
section
set_option maxRecDepth 100000
set_option maxHeartbeats 4000000
namespace K16
open PySem PySem.Spec PyProof.Rows L2
/-! ### what is computed -/
def badC (T : Int) (c : Int × Int) : Bool := !(decide (1 ≤ c.1) && decide (c.1 ≤ T)) || decide (c.2 < 0)
/-- the first wrong call, from row k on -/
def fbad (T : Int) : Int → List (Int × Int) → Int
  | _, [] => 0
  | k, c :: r => if badC T c = true then k else fbad T (k + 1) r
theorem lim_days : (("days" : Str), He.Dv.int 24) ∈ limits := List.mem_of_getElem? (i := 0) rfl
theorem lim_calls : (("calls" : Str), He.Dv.int 60) ∈ limits := List.mem_of_getElem? (i := 5) rfl
section
variable {P : Program} {w : World} {K : PySem.W.Frag} {mg : Str → Option Value} {base : Heap}
theorem x_BadSetting (T : Txt w K mg) : XOk P w K mg base 1 "BadSetting" (cBS K) ["self", "what"] (spInit (cBS K) "what") := by
  obtain ⟨fd, F⟩ := fi_BadSetting T
  refine ⟨_, fd, xt_BadSetting T, F.ok (CX := CX0) sc_BadSetting___init__ (fun vs H Q E h => ?_) (fun cdv A outer s H vs Q E hr h => ?_), g_BadSetting T, F.bindsN (fun _ _ _ _ _ _ us hl => match us, hl with | [_, _], _ => rfl)⟩
  · obtain ⟨a, v, rfl, _⟩ := h
    rfl
  · obtain ⟨a, v, rfl, ha, k⟩ := h
    refine ⟨_, PSs.nox (pss_cons (ps_expr (pe_seinit (se T) rfl (g_SeenError T) (pa_cons (pv 0) (pa_cons pe_str pa_nil))))
      (pss_one (ps_ost (pv 0) (pv 1)))), ?_⟩
    refine ⟨_, rfl, a, cBS K, [.str _], rfl, (by show 1 ≤ 1000; decide), (xt_BadSetting T).oex, ha, ?_⟩
    exact ⟨_, rfl, _, rfl, a, cBS K, rfl, (xt_BadSetting T).oex, xn_BadSetting_what T, .inl ⟨ha, fun dx hd hne => k dx hd hne⟩⟩
theorem x_BadCalls (T : Txt w K mg) : XOk P w K mg base 1 "BadCalls" (cBC K) ["self", "row"] (spInit (cBC K) "row") := by
  obtain ⟨fd, F⟩ := fi_BadCalls T
  refine ⟨_, fd, xt_BadCalls T, F.ok (CX := CX0) sc_BadCalls___init__ (fun vs H Q E h => ?_) (fun cdv A outer s H vs Q E hr h => ?_), g_BadCalls T, F.bindsN (fun _ _ _ _ _ _ us hl => match us, hl with | [_, _], _ => rfl)⟩
  · obtain ⟨a, v, rfl, _⟩ := h
    rfl
  · obtain ⟨a, v, rfl, ha, k⟩ := h
    refine ⟨_, PSs.nox (pss_cons (ps_expr (pe_seinit (se T) rfl (g_SeenError T) (pa_cons (pv 0) (pa_cons pe_str pa_nil))))
      (pss_one (ps_ost (pv 0) (pv 1)))), ?_⟩
    refine ⟨_, rfl, a, cBC K, [.str _], rfl, (by show 1 ≤ 1000; decide), (xt_BadCalls T).oex, ha, ?_⟩
    exact ⟨_, rfl, _, rfl, a, cBC K, rfl, (xt_BadCalls T).oex, xn_BadCalls_row T, .inl ⟨ha, fun dx hd hne => k dx hd hne⟩⟩
def spReach (K : PySem.W.Frag) : Sp := fun vs H Q E => ∃ n : Int, vs = [.int n] ∧ (0 ≤ n → Q .non H) ∧ (n < 0 → Rz E H (cBC K) "row" (.int 1))
theorem ok_check_reach (T : Txt w K mg) : Ok P w K mg base (L2.CX P w) 4 "check_reach" ["reach"] (spReach K) := by
  refine Ok.defX (f_check_reach T) (fun _ _ _ _ _ _ us hl => match us, hl with | [_], _ => rfl) sc_check_reach (fun vs H Q E h => ?_) (fun f cdv A outer s H vs Q E hr h tk => ?_)
  · obtain ⟨n, rfl, _⟩ := h
    rfl
  · obtain ⟨n, rfl, k1, k2⟩ := h
    refine ⟨_, (pss_one (ps_if (pt_cmpR op_lt (pv 0) pe_int (nomark _)) (pss_one (ps_raise rfl tk (pmk_x (x_BadCalls T) (hr.mono (by decide)) rfl (pa_cons pe_int pa_nil)))) pss_nil)), ?_⟩
    refine ⟨_, rfl, _, _, rfl, rfl, _, rfl, ?_⟩
    refine ite2 (fun c => ?_) (fun c => ?_)
    · exact (mko ((k2 (of_decide_eq_true c)).at (Same.refl H)))
    · exact k1 (by simpa using c)
def spUnsD (K : PySem.W.Frag) : Sp := fun vs H Q E => ∃ (a b : Addr) (ns : List Int) (xs : List V) (cs : List (Int × Int)), vs = [.ref a, .ref b] ∧ SqL K H a (ns.map V.int) ∧ SqL K H b xs ∧ PairsR K H xs cs ∧ xs.length ≤ 1000 ∧ ns.length ≤ 1000 ∧
  (24 < ns.length → Rz E H (cTM K) "what" (.str "days")) ∧ (ns.length ≤ 24 → 60 < cs.length → Rz E H (cTM K) "what" (.str "calls")) ∧
  (ns.length ≤ 24 → cs.length ≤ 60 → fbad ns.length 1 cs ≠ 0 → Rz E H (cBC K) "row" (.int (fbad ns.length 1 cs))) ∧
  (ns.length ≤ 24 → cs.length ≤ 60 → fbad ns.length 1 cs = 0 → ∀ H', Same H H' → Q (.int (uns cs 1 ns)) H')
theorem ok_unserved_day (T : Txt w K mg) : Ok P w K mg base (L2.CX P w) 5 "unserved_day" ["needs", "calls"] (spUnsD K) := by
  refine Ok.defX (f_unserved_day T) (fun _ _ _ _ _ _ us hl => match us, hl with | [_, _], _ => rfl) sc_unserved_day (fun vs H Q E h => ?_) (fun f cdv A outer s H vs Q E hr h tk => ?_)
  · obtain ⟨a, b, ns, xs, cs, rfl, _⟩ := h
    rfl
  · obtain ⟨a, b, ns, xs, cs, rfl, ha, hb, hp, hl, hn, e1, e2, e3, k⟩ := h
    refine ⟨_, (pss_cons (ps_expr (pe_okS (ok_check T) (hr.mono (by decide)) rfl (fun σ => passAt tk σ) (pa_cons pe_str (pa_cons (pe_callB (len_seqK (K := K) rfl) rfl (n_len T) (by decide +kernel) (pa_cons (pv 0) pa_nil)) pa_nil))))
      (pss_cons (ps_expr (pe_okS (ok_check T) (hr.mono (by decide)) rfl (fun σ => passAt tk σ) (pa_cons pe_str (pa_cons (pe_callB (len_seqK (K := K) rfl) rfl (n_len T) (by decide +kernel) (pa_cons (pv 1) pa_nil)) pa_nil))))
      (pss_cons (ps_for (passes_of rfl) rfl (pi_enumS rfl (n_enumerate T) (pa_cons (pv 1) pa_nil) (pk_cons pe_int pk_nil)) (pg_tupK (K := K) rfl rfl (pgs_cons (pg_name (i := 2) sc_unserved_day.nd rfl (by first | exact Or.inl rfl | exact Or.inr rfl)) (pgs_cons (pg_name (i := 3) sc_unserved_day.nd rfl (by first | exact Or.inl rfl | exact Or.inr rfl)) pgs_nil)))
        (pss_one (ps_if (PW.pt (pw_or (pt_not (pt_chain op_le op_le pe_int (pe_ix (ix_seqK (K := K) rfl) (pv 3) pe_int (fun _ _ => rfl)) (pe_callB (len_seqK (K := K) rfl) rfl (n_len T) (by decide +kernel) (pa_cons (pv 0) pa_nil)))) (pw_or1 (pt_cmpR op_lt (pe_ix (ix_seqK (K := K) rfl) (pv 3) pe_int (fun _ _ => rfl)) pe_int (nomark _))))) (pss_one (ps_raise rfl tk (pmk_x (x_BadCalls T) (hr.mono (by decide)) rfl (pa_cons (pv 2) pa_nil)))) pss_nil)))
      (pss_one (ps_ret (pe_ok (ok_first_unserved T) (hr.mono (by decide)) rfl pass0 (pa_cons (pv 0) (pa_cons (pv 1) pa_nil)))))))), ?_⟩
    refine ⟨_, rfl, _, _, rfl, .inl ha, "days", _, 24, rfl, lim_days, fun c1 => ?_, fun c1 => ?_⟩
    · rw [ints_len] at c1
      have c1 : ns.length ≤ 24 := by omega
      refine ⟨_, rfl, _, _, rfl, .inl hb, "calls", _, 60, rfl, lim_calls, fun c2 => ?_, fun c2 => e2 c1 (by rw [hp.len] at c2; omega)⟩
      have c2 : cs.length ≤ 60 := by rw [hp.len] at c2; omega
      have e3 := e3 c1 c2
      have k := k c1 c2
      refine ⟨_, rfl, b, _, 1, rfl, rfl, by decide, by decide, hb, for_enumS (K := K) (xs := xs) (fun i σ H' => ∃ v2 v3, σ = [some (.ref a), some (.ref b), v2, v3] ∧ Same H H' ∧ fbad ns.length 1 cs = fbad ns.length (1 + (i : Nat)) (cs.drop i)) ⟨none, none, rfl, Same.refl H, rfl⟩ (fun i σ H' _ ⟨_, _, _, e, _⟩ => e.seq hb) ?_ ?_⟩
      · rintro i x σ H' t hx ⟨v2, v3, rfl, e, hu⟩ ht
        obtain ⟨c, hc, hr'⟩ := hp.get hx
        have e1 := e.trans (same_new (o := .tup [.int (1 + (i : Nat)), x]) ht)
        have hr1 := hr'.same e1
        refine ⟨t, _, rfl, SqT.of upd_same, rfl, _, _, rfl, _, _, rfl, rfl, ?_⟩
        rw [drop_get hc] at hu
        have step : fbad ns.length (1 + (i : Nat)) (c :: cs.drop (i + 1)) = if badC ns.length c = true then (1 + ((i : Nat) : Int)) else fbad ns.length (1 + (i : Nat) + 1) (cs.drop (i + 1)) := rfl
        have next : (1 + ((i + 1 : Nat) : Int)) = 1 + (i : Nat) + 1 := by omega
        have bad : badC ns.length c = true → Rz E H (cBC K) "row" (.int (1 + (i : Nat))) := fun q => by
          rw [step, if_pos q] at hu
          rw [hu] at e3
          exact e3 (by omega)
        have good : badC ns.length c = false → fbad ns.length 1 cs = fbad ns.length (1 + ((i + 1 : Nat) : Int)) (cs.drop (i + 1)) := fun q => by
          rw [step, if_neg (fun z => by rw [q] at z; cases z)] at hu
          rw [hu, next]
        refine ⟨_, rfl, hr1.ix0 ⟨_, _, rfl, rfl, _, rfl, ?_⟩⟩
        have raise : badC ns.length c = true → ∀ H2, Same H H2 → Rz E H2 (cBC K) "row" (.int (1 + (i : Nat))) := fun q H2 s2 d H3 s3 => bad q d H3 (s2.trans s3)
        cases q1 : decide (1 ≤ c.1) with
        | false => exact iteF ⟨_, rfl, ⟨_, rfl, mko ((bad (by simp [badC, q1])).at e1)⟩⟩
        | true =>
          refine iteT ⟨_, rfl, _, _, rfl, .inl (e1.seq ha), _, _, rfl, rfl, _, rfl, ?_⟩
          rw [ints_len]
          cases q2 : decide (c.1 ≤ (ns.length : Int)) with
          | false => exact ⟨_, rfl, mko ((bad (by simp [badC, q2])).at e1)⟩
          | true =>
            refine ⟨_, rfl, hr1.ix1 ⟨_, _, rfl, rfl, _, rfl, ?_⟩⟩
            cases q3 : decide (c.2 < 0) with
            | true => exact ⟨_, rfl, mko ((bad (by simp [badC, q3])).at e1)⟩
            | false => exact ⟨_, _, rfl, e1, good (by simp [badC, q1, q2, q3])⟩
      · rintro σ H' ⟨v2, v3, rfl, e, hu⟩
        rw [hp.len, List.drop_length] at hu
        exact ⟨_, rfl, _, rfl, a, b, ns, xs, cs, rfl, e.seq ha, e.seq hb, hp.same e, hl, hn, fun H2 s2 => k hu H2 (e.trans s2)⟩
    · rw [ints_len] at c1
      exact e1 (by omega)
end
end K16
end
section
set_option maxRecDepth 100000
set_option maxHeartbeats 4000000
namespace K16
open PySem PySem.Spec PyProof.Rows L2
/-! ### what is computed -/
/-- the first day, from d on, that no visit can serve -/
def nev (r : Int) : Int → List Int → Int
  | _, [] => 0
  | d, n :: t => if 0 < n ∧ d < n - r then d else nev r (d + 1) t
def grd (r : Int) : Int → Int → List Int → List Int
  | _, _, [] => []
  | last, d, n :: t => if 0 < n ∧ last < max 1 (n - r) then d :: grd r d (d + 1) t else grd r last (d + 1) t
theorem grd_len (r : Int) : ∀ (ns : List Int) (l d : Int), (grd r l d ns).length ≤ ns.length
  | [], _, _ => Nat.le_refl _
  | n :: t, l, d => by
    unfold grd
    split
    · exact Nat.succ_le_succ (grd_len r t _ _)
    · exact Nat.le_succ_of_le (grd_len r t _ _)
/-- a pair of a name and an int, or a name and a list of ints -/
def NevR (H : Hp) (v : V) (d : Int) : Prop := ∃ t, v = .ref t ∧ H t = some (.tup [.str "never", .int d])
def CallsR (H0 H : Hp) (v : V) (ds : List Int) : Prop := ∃ t l, v = .ref t ∧ H t = some (.tup [.str "calls", .ref l]) ∧ H l = some (.lst (ds.map V.int)) ∧ H0 l = none ∧ H0 t = none ∧ t ≠ l
theorem max1 (m : Int) : (if m > 1 then m else 1) = max 1 m := by omega
section
variable {P : Program} {w : World} {K : PySem.W.Frag} {mg : Str → Option Value} {base : Heap}
def spFew (K : PySem.W.Frag) : Sp := fun vs H Q E => ∃ (a : Addr) (ns : List Int) (r : Int), vs = [.ref a, .int r] ∧ SqL K H a (ns.map V.int) ∧ ns.length ≤ 1000 ∧
  (24 < ns.length → Rz E H (cTM K) "what" (.str "days")) ∧ (ns.length ≤ 24 → r < 0 → Rz E H (cBC K) "row" (.int 1)) ∧
  (ns.length ≤ 24 → 0 ≤ r → nev r 1 ns ≠ 0 → ∀ v H', Same H H' → NevR H' v (nev r 1 ns) → Q v H') ∧
  (ns.length ≤ 24 → 0 ≤ r → nev r 1 ns = 0 → ∀ v H', Same H H' → CallsR H H' v (grd r 0 1 ns) → Q v H')
theorem ok_fewest_visits (T : Txt w K mg) : Ok P w K mg base (L2.CX P w) 5 "fewest_visits" ["needs", "reach"] (spFew K) := by
  refine Ok.defX (f_fewest_visits T) (fun _ _ _ _ _ _ us hl => match us, hl with | [_, _], _ => rfl) sc_fewest_visits (fun vs H Q E h => ?_) (fun f cdv A outer s H vs Q E hr h tk => ?_)
  · obtain ⟨a, ns, r, rfl, _⟩ := h
    rfl
  · obtain ⟨a, ns, r, rfl, ha, hn, e1, e2, k1, k2⟩ := h
    refine ⟨_, (pss_cons (ps_expr (pe_okS (ok_check T) (hr.mono (by decide)) rfl (fun σ => passAt tk σ) (pa_cons pe_str (pa_cons (pe_callB (len_seqK (K := K) rfl) rfl (n_len T) (by decide +kernel) (pa_cons (pv 0) pa_nil)) pa_nil))))
      (pss_cons (ps_expr (pe_okS (ok_check_reach T) (hr.mono (by decide)) rfl (fun σ => passAt tk σ) (pa_cons (pv 1) pa_nil)))
      (pss_cons (ps_for (passes_of rfl) rfl (pi_enumS rfl (n_enumerate T) (pa_cons (pv 0) pa_nil) (pk_cons pe_int pk_nil)) (pg_tupK (K := K) rfl rfl (pgs_cons (pg_name (i := 2) sc_fewest_visits.nd rfl (by first | exact Or.inl rfl | exact Or.inr rfl)) (pgs_cons (pg_name (i := 3) sc_fewest_visits.nd rfl (by first | exact Or.inl rfl | exact Or.inr rfl)) pgs_nil)))
        (pss_one (ps_if (PW.pt (pw_and (pt_cmpR op_gt (pv 3) pe_int (nomark _)) (pw_and1 (pt_cmpR op_gt (pe_op op_sub (pv 3) (pv 1)) (pv 2) (nomark _))))) (pss_one (ps_ret (pe_tup (pa_cons pe_str (pa_cons (pv 2) pa_nil))))) pss_nil)))
      (pss_cons (ps_set (i := 4) sc_fewest_visits.nd rfl (by first | exact Or.inl rfl | exact Or.inr rfl) (pe_lst pa_nil))
      (pss_cons (ps_set (i := 5) sc_fewest_visits.nd rfl (by first | exact Or.inl rfl | exact Or.inr rfl) pe_int)
      (pss_cons (ps_for (passes_of rfl) rfl (pi_enumS rfl (n_enumerate T) (pa_cons (pv 0) pa_nil) (pk_cons pe_int pk_nil)) (pg_tupK (K := K) rfl rfl (pgs_cons (pg_name (i := 2) sc_fewest_visits.nd rfl (by first | exact Or.inl rfl | exact Or.inr rfl)) (pgs_cons (pg_name (i := 3) sc_fewest_visits.nd rfl (by first | exact Or.inl rfl | exact Or.inr rfl)) pgs_nil)))
        (pss_one (ps_if (PW.pt (pw_and (pt_cmpR op_gt (pv 3) pe_int (nomark _)) (pw_and1 (pt_cmpR op_lt (pv 5) (pe_callB (call_max2 rfl) rfl (n_max T) (by decide +kernel) (pa_cons pe_int (pa_cons (pe_op op_sub (pv 3) (pv 1)) pa_nil))) (nomark _))))) (pss_cons (ps_expr (pe_bm PySem.F.plainAttrs_list PySem.F.slot_list_append PySem.F.type_list_append mt_append (pv 4) (pa_cons (pv 2) pa_nil)))
      (pss_one (ps_set (i := 5) sc_fewest_visits.nd rfl (by first | exact Or.inl rfl | exact Or.inr rfl) (pv 2)))) pss_nil)))
      (pss_one (ps_ret (pe_tup (pa_cons pe_str (pa_cons (pv 4) pa_nil))))))))))), ?_⟩
    refine ⟨_, rfl, _, _, rfl, .inl ha, "days", _, 24, rfl, lim_days, fun c1 => ?_, fun c1 => e1 (by rw [ints_len] at c1; omega)⟩
    have c1 : ns.length ≤ 24 := by rw [ints_len] at c1; omega
    refine ⟨_, rfl, r, rfl, fun c2 => ?_, fun c2 => e2 c1 c2⟩
    have k1 := k1 c1 c2
    have k2 := k2 c1 c2
    refine ⟨_, rfl, a, _, 1, rfl, rfl, by decide, by decide, ha, for_enumS (K := K) (xs := ns.map V.int) (fun i σ H' => ∃ v2 v3, σ = [some (.ref a), some (.int r), v2, v3, none, none] ∧ Same H H' ∧ nev r 1 ns = nev r (1 + (i : Nat)) (ns.drop i)) ⟨none, none, rfl, Same.refl H, rfl⟩ (fun i σ H' _ ⟨_, _, _, e, _⟩ => e.seq ha) ?_ ?_⟩
    · rintro i x σ H' t hx ⟨v2, v3, rfl, e, hu⟩ ht
      obtain ⟨n, hn', rfl⟩ := ints_get hx
      have e1 := e.trans (same_new (o := .tup [.int (1 + (i : Nat)), .int n]) ht)
      refine ⟨t, _, rfl, SqT.of upd_same, rfl, _, _, rfl, _, _, rfl, rfl, ?_⟩
      rw [drop_get hn'] at hu
      have step : nev r (1 + (i : Nat)) (n :: ns.drop (i + 1)) = if 0 < n ∧ (1 + ((i : Nat) : Int)) < n - r then (1 + ((i : Nat) : Int)) else nev r (1 + (i : Nat) + 1) (ns.drop (i + 1)) := rfl
      have next : (1 + ((i + 1 : Nat) : Int)) = 1 + (i : Nat) + 1 := by omega
      refine ⟨_, rfl, _, _, rfl, rfl, _, rfl, ?_⟩
      refine ite2 (fun c => ?_) (fun c => ?_)
      · have c := of_decide_eq_true c
        refine ⟨_, rfl, _, rfl, _, _, rfl, rfl, _, rfl, _, _, rfl, rfl, _, rfl, ?_⟩
        refine ite2 (fun c3 => ?_) (fun c3 => ?_)
        · have c3 := of_decide_eq_true c3
          rw [step, if_pos ⟨c, c3⟩] at hu
          refine ⟨_, rfl, (by show 2 ≤ sizeLine; decide), fun p hp => ?_⟩
          rw [hu] at k1
          exact k1 (by omega) _ _ (e1.trans (same_new hp)) ⟨p, rfl, upd_same⟩
        · refine ⟨_, _, rfl, e1, ?_⟩
          rw [step, if_neg (fun z => c3 (decide_eq_true z.2))] at hu
          rw [hu, next]
      · refine ⟨_, _, rfl, e1, ?_⟩
        rw [step, if_neg (fun z => c (decide_eq_true z.1))] at hu
        rw [hu, next]
    · rintro σ H' ⟨v2, v3, rfl, e, hu⟩
      rw [ints_len, List.drop_length] at hu
      have k2 := k2 hu
      clear k1 hu
      refine nxE ⟨(by show 0 ≤ sizeLine; decide), fun l hl => ?_⟩
      have hl0 : H l = none := e.free hl
      have eL : Same H (upd H' l (.lst [])) := e.trans (same_new hl)
      refine ⟨_, rfl, a, _, 1, rfl, rfl, by decide, by decide, eL.seq ha, for_enumS (K := K) (xs := ns.map V.int) (fun i σ H' => ∃ v2 v3 last acc, σ = [some (.ref a), some (.int r), v2, v3, some (.ref l), some (.int last)] ∧ Same H H' ∧ H' l = some (.lst (acc.map V.int)) ∧ acc.length ≤ i ∧ grd r 0 1 ns = acc ++ grd r last (1 + (i : Nat)) (ns.drop i)) ⟨_, _, 0, [], rfl, eL, upd_same, Nat.le_refl _, rfl⟩ (fun i σ H' _ ⟨_, _, _, _, _, e, _⟩ => e.seq ha) ?_ ?_⟩
      · rintro i x σ H' t hx ⟨v2, v3, last, acc, rfl, e, hL, hal, hu⟩ ht
        obtain ⟨n, hn', rfl⟩ := ints_get hx
        have hi : i < ns.length := (List.getElem?_eq_some_iff.mp hn').1
        have e1 := e.trans (same_new (o := .tup [.int (1 + (i : Nat)), .int n]) ht)
        have hL1 : upd H' t (.tup [.int (1 + (i : Nat)), .int n]) l = some (.lst (acc.map V.int)) := by rw [upd_ne (ne_of_none hL ht)]; exact hL
        refine ⟨t, _, rfl, SqT.of upd_same, rfl, _, _, rfl, _, _, rfl, rfl, ?_⟩
        rw [drop_get hn'] at hu
        have step : grd r last (1 + (i : Nat)) (n :: ns.drop (i + 1)) = if 0 < n ∧ last < max 1 (n - r) then (1 + ((i : Nat) : Int)) :: grd r (1 + (i : Nat)) (1 + (i : Nat) + 1) (ns.drop (i + 1)) else grd r last (1 + (i : Nat) + 1) (ns.drop (i + 1)) := rfl
        have next : (1 + ((i + 1 : Nat) : Int)) = 1 + (i : Nat) + 1 := by omega
        have skip : ¬ (0 < n ∧ last < max 1 (n - r)) → grd r 0 1 ns = acc ++ grd r last (1 + ((i + 1 : Nat) : Int)) (ns.drop (i + 1)) := fun z => by
          rw [step, if_neg z] at hu
          rw [hu, next]
        refine ⟨_, rfl, _, _, rfl, rfl, _, rfl, ?_⟩
        refine ite2 (fun c => ?_) (fun c => ?_)
        · have c := of_decide_eq_true c
          refine ⟨_, rfl, _, rfl, _, rfl, _, _, rfl, rfl, _, _, rfl, _, _, rfl, rfl, _, rfl, ?_⟩
          rw [max1]
          refine ite2 (fun c3 => ?_) (fun c3 => ?_)
          · have c3 := of_decide_eq_true c3
            rw [step, if_pos ⟨c, c3⟩] at hu
            refine ⟨_, rfl, .inl ⟨rfl, _, SqL.of hL1⟩, _, rfl, l, _, _, rfl, rfl, hL1, (by rw [ints_len]; exact line_lt (by omega)), ?_⟩
            refine ⟨_, rfl, _, _, 1 + (i : Nat), acc ++ [1 + ((i : Nat) : Int)], rfl, same_mut e1 hl0, by rw [upd_same, List.map_append]; rfl, by rw [List.length_append]; exact Nat.succ_le_succ hal, ?_⟩
            rw [hu, next, List.append_assoc]
            rfl
          · exact ⟨_, _, _, acc, rfl, e1, hL1, Nat.le_succ_of_le hal, skip fun z => c3 (decide_eq_true z.2)⟩
        · exact ⟨_, _, _, acc, rfl, e1, hL1, Nat.le_succ_of_le hal, skip fun z => c (decide_eq_true z.1)⟩
      · rintro σ H' ⟨v2, v3, last, acc, rfl, e, hL, hal, hu⟩
        rw [ints_len, List.drop_length] at hu
        have hu : grd r 0 1 ns = acc := by rw [hu]; exact List.append_nil acc
        refine ⟨_, rfl, (by show 2 ≤ sizeLine; decide), fun p hp => ?_⟩
        refine k2 _ _ (e.trans (same_new hp)) ⟨p, l, rfl, upd_same, ?_, hl0, e.free hp, (ne_of_none hL hp).symm⟩
        rw [upd_ne (ne_of_none hL hp), hu]
        exact hL
end
end K16
end
section
set_option maxRecDepth 100000
set_option maxHeartbeats 4000000
namespace K16
open PySem PySem.Spec PyProof.Rows L2
section
variable {P : Program} {w : World} {K : PySem.W.Frag} {mg : Str → Option Value} {base : Heap}
/-- a new list of ints -/
def NewL (H0 H : Hp) (v : V) (ns : List Int) : Prop := ∃ l, v = .ref l ∧ H0 l = none ∧ H l = some (.lst (ns.map V.int))
def spRec (K : PySem.W.Frag) : Sp := fun vs H Q E => ∃ (a : Addr) (ns : List Int), vs = [.ref a] ∧ SqL K H a (ns.map V.int) ∧ ns.length ≤ 1000 ∧
  (24 < ns.length → Rz E H (cTM K) "what" (.str "days")) ∧ (ns.length ≤ 24 → ∀ v H', Same H H' → NewL H H' v (recs 1 0 ns) → Q v H')
theorem ok_record_days (T : Txt w K mg) : Ok P w K mg base (L2.CX P w) 5 "record_days" ["needs"] (spRec K) := by
  refine Ok.defX (f_record_days T) (fun _ _ _ _ _ _ us hl => match us, hl with | [_], _ => rfl) sc_record_days (fun vs H Q E h => ?_) (fun f cdv A outer s H vs Q E hr h tk => ?_)
  · obtain ⟨a, ns, rfl, _⟩ := h
    rfl
  · obtain ⟨a, ns, rfl, ha, hn, e1, k⟩ := h
    refine ⟨_, (pss_cons (ps_expr (pe_okS (ok_check T) (hr.mono (by decide)) rfl (fun σ => passAt tk σ) (pa_cons pe_str (pa_cons (pe_callB (len_seqK (K := K) rfl) rfl (n_len T) (by decide +kernel) (pa_cons (pv 0) pa_nil)) pa_nil))))
      (pss_cons (ps_set (i := 1) sc_record_days.nd rfl (by first | exact Or.inl rfl | exact Or.inr rfl) (pe_lst pa_nil))
      (pss_cons (ps_set (i := 2) sc_record_days.nd rfl (by first | exact Or.inl rfl | exact Or.inr rfl) pe_int)
      (pss_cons (ps_for (passes_of rfl) rfl (pi_enumS rfl (n_enumerate T) (pa_cons (pv 0) pa_nil) (pk_cons pe_int pk_nil)) (pg_tupK (K := K) rfl rfl (pgs_cons (pg_name (i := 3) sc_record_days.nd rfl (by first | exact Or.inl rfl | exact Or.inr rfl)) (pgs_cons (pg_name (i := 4) sc_record_days.nd rfl (by first | exact Or.inl rfl | exact Or.inr rfl)) pgs_nil)))
        (pss_one (ps_if (pt_cmpR op_gt (pv 4) (pv 2) (nomark _)) (pss_cons (ps_set (i := 2) sc_record_days.nd rfl (by first | exact Or.inl rfl | exact Or.inr rfl) (pv 4))
      (pss_one (ps_expr (pe_bm PySem.F.plainAttrs_list PySem.F.slot_list_append PySem.F.type_list_append mt_append (pv 1) (pa_cons (pv 3) pa_nil))))) pss_nil)))
      (pss_one (ps_ret (pv 1))))))), ?_⟩
    refine ⟨_, rfl, _, _, rfl, .inl ha, "days", _, 24, rfl, lim_days, fun c1 => ?_, fun c1 => e1 (by rw [ints_len] at c1; omega)⟩
    have c1 : ns.length ≤ 24 := by rw [ints_len] at c1; omega
    have k := k c1
    refine ⟨(by show 0 ≤ sizeLine; decide), fun l hl => ?_⟩
    have eL : Same H (upd H l (.lst [])) := same_new hl
    refine ⟨_, rfl, a, _, 1, rfl, rfl, by decide, by decide, eL.seq ha, for_enumS (K := K) (xs := ns.map V.int) (fun i σ H' => ∃ v2 v3 best acc, σ = [some (.ref a), some (.ref l), some (.int best), v2, v3] ∧ Same H H' ∧ H' l = some (.lst (acc.map V.int)) ∧ acc.length ≤ i ∧ recs 1 0 ns = acc ++ recs (1 + (i : Nat)) best (ns.drop i)) ⟨_, _, 0, [], rfl, eL, upd_same, Nat.le_refl _, rfl⟩ (fun i σ H' _ ⟨_, _, _, _, _, e, _⟩ => e.seq ha) ?_ ?_⟩
    · rintro i x σ H' t hx ⟨v2, v3, best, acc, rfl, e, hL, hal, hu⟩ ht
      obtain ⟨n, hn', rfl⟩ := ints_get hx
      have hi : i < ns.length := (List.getElem?_eq_some_iff.mp hn').1
      have e1 := e.trans (same_new (o := .tup [.int (1 + (i : Nat)), .int n]) ht)
      have hL1 : upd H' t (.tup [.int (1 + (i : Nat)), .int n]) l = some (.lst (acc.map V.int)) := by rw [upd_ne (ne_of_none hL ht)]; exact hL
      refine ⟨t, _, rfl, SqT.of upd_same, rfl, _, _, rfl, _, _, rfl, rfl, ?_⟩
      rw [drop_get hn'] at hu
      have step : recs (1 + (i : Nat)) best (n :: ns.drop (i + 1)) = if best < n then (1 + ((i : Nat) : Int)) :: recs (1 + (i : Nat) + 1) n (ns.drop (i + 1)) else recs (1 + (i : Nat) + 1) best (ns.drop (i + 1)) := rfl
      have next : (1 + ((i + 1 : Nat) : Int)) = 1 + (i : Nat) + 1 := by omega
      refine ⟨_, rfl, _, rfl, _, _, rfl, rfl, _, rfl, ?_⟩
      refine ite2 (fun c => ?_) (fun c => ?_)
      · have c := of_decide_eq_true c
        rw [step, if_pos c] at hu
        refine ⟨_, rfl, _, rfl, .inl ⟨rfl, _, SqL.of hL1⟩, _, rfl, l, _, _, rfl, rfl, hL1, (by rw [ints_len]; exact line_lt (by omega)), ?_⟩
        refine ⟨_, _, n, acc ++ [1 + ((i : Nat) : Int)], rfl, same_mut e1 hl, by rw [upd_same, List.map_append]; rfl, by rw [List.length_append]; exact Nat.succ_le_succ hal, ?_⟩
        rw [hu, next, List.append_assoc]
        rfl
      · refine ⟨_, _, _, acc, rfl, e1, hL1, Nat.le_succ_of_le hal, ?_⟩
        rw [step, if_neg (fun z => c (decide_eq_true z))] at hu
        rw [hu, next]
    · rintro σ H' ⟨v2, v3, best, acc, rfl, e, hL, hal, hu⟩
      rw [ints_len, List.drop_length] at hu
      have hu : recs 1 0 ns = acc := by rw [hu]; exact List.append_nil acc
      exact ⟨_, rfl, k _ _ e ⟨l, rfl, hl, by rw [hu]; exact hL⟩⟩
def spRecL (K : PySem.W.Frag) : Sp := fun vs H Q _ => ∃ (a : Addr) (ns : List Int), vs = [.ref a] ∧ H a = some (.lst (ns.map V.int)) ∧ ns.length ≤ 1000 ∧ ∀ v H', Same H H' → NewL H H' v (recs 1 0 ns) → Q v H'
theorem ok__law_e_records (T : Txt w K mg) : Ok P w K mg base CX0 1 "_law_e_records" ["needs"] (spRecL K) := by
  refine Ok.def0 (f__law_e_records T) (fun _ _ _ _ _ _ us hl => match us, hl with | [_], _ => rfl) sc__law_e_records (fun vs H Q E h => ?_) (fun f cdv A outer s H vs Q E hr h => ?_)
  · obtain ⟨a, ns, rfl, _⟩ := h
    rfl
  · obtain ⟨a, ns, rfl, ha, hn, k⟩ := h
    refine ⟨_, (pss_cons (ps_set (i := 1) sc__law_e_records.nd rfl (by first | exact Or.inl rfl | exact Or.inr rfl) (pe_lst pa_nil))
      (pss_cons (ps_for PassesOwn.never rfl (pi_range2 rfl (n_range T) (pa_cons pe_int (pa_cons (pe_op op_add (pe_callB (len_seqK (K := K) rfl) rfl (n_len T) (by decide +kernel) (pa_cons (pv 0) pa_nil)) pe_int) pa_nil))) (pg_name (i := 2) sc__law_e_records.nd rfl (by first | exact Or.inl rfl | exact Or.inr rfl))
        (pss_one (ps_if (pt_cmpR op_gt (pe_ix (ix_listK (K := K) rfl) (pv 0) (pe_op op_sub (pv 2) pe_int) (fun _ _ => rfl)) (pe_callB (maxK (K := K) rfl rfl) rfl (n_max T) (by decide +kernel) (pa_cons (pe_op op_cat (pe_lst (pa_cons pe_int pa_nil)) (pe_slice (sl_listK (K := K) rfl) (pv 0) po_none (po_some (pe_op op_sub (pv 2) pe_int)))) pa_nil)) (nomark _)) (pss_one (ps_expr (pe_bm PySem.F.plainAttrs_list PySem.F.slot_list_append PySem.F.type_list_append mt_append (pv 1) (pa_cons (pv 2) pa_nil)))) pss_nil)))
      (pss_one (ps_ret (pv 1))))), ?_⟩
    refine ⟨(by show 0 ≤ sizeLine; decide), fun l hl => ?_⟩
    have eL : Same H (upd H l (.lst [])) := same_new hl
    refine ⟨_, rfl, _, _, rfl, .inl (eL.seq (SqL.of ha)), _, _, rfl, rfl, 1, _, rfl, ⟨by decide, by decide, by rw [ints_len]; omega, by rw [ints_len]; omega⟩,
      for_upto (L := ns.length) (by rw [ints_len]; omega) (fun i σ H' => ∃ v2 best acc, σ = [some (.ref a), some (.ref l), v2] ∧ Same H H' ∧ H' l = some (.lst (acc.map V.int)) ∧ acc.length ≤ i ∧ recs 1 0 ns = acc ++ recs (1 + (i : Nat)) best (ns.drop i) ∧ best ∈ 0 :: ns.take i ∧ ∀ y ∈ 0 :: ns.take i, y ≤ best) ⟨_, 0, [], rfl, eL, upd_same, Nat.le_refl _, rfl, List.mem_cons_self, by intro y hy; simp at hy; omega⟩ ?_ ?_⟩
    · rintro i σ H' hi ⟨v2, best, acc, rfl, e, hL, hal, hu, hb, hm⟩
      obtain ⟨n, hn'⟩ := ints_ix hi
      rw [drop_get hn'] at hu
      have step : recs (1 + (i : Nat)) best (n :: ns.drop (i + 1)) = if best < n then (1 + ((i : Nat) : Int)) :: recs (1 + (i : Nat) + 1) n (ns.drop (i + 1)) else recs (1 + (i : Nat) + 1) best (ns.drop (i + 1)) := rfl
      have next : (1 + ((i + 1 : Nat) : Int)) = 1 + (i : Nat) + 1 := by omega
      have hA : ∀ H2, Same H' H2 → H2 a = some (.lst (ns.map V.int)) := fun H2 s2 => s2 _ _ (e _ _ ha)
      have ix : (1 + (i : Int)) - 1 = (i : Int) := by omega
      have hn0 : best ∈ 0 :: ns.take i → ∀ z, z ∈ 0 :: ns.take i → (∀ y, y ∈ 0 :: ns.take i → y ≤ z) → z = best := fun _ z hz hz' => max_eq hz hz' hb hm
      refine ⟨_, rfl, _, rfl, _, _, rfl, rfl, a, _, _, _, rfl, rfl, SqL.of (hA _ (Same.refl _)), at_of (by omega) (ints_at hn'), ?_⟩
      refine ⟨(by show 1 ≤ sizeLine; decide), fun p hp => ?_⟩
      have s1 : Same H' (upd H' p (.lst [V.int 0])) := same_new hp
      refine ⟨_, rfl, _, rfl, _, _, rfl, rfl, _, rfl, a, _, rfl, SqL.of (hA _ s1), fun q hq => ?_⟩
      rw [cut_take _ ix, map_take]
      have s2 := s1.trans (same_new (o := .lst ((ns.take i).map V.int)) hq)
      refine ⟨p, q, _, _, rfl, rfl, (by rw [upd_ne (ne_of_none upd_same hq)]; exact upd_same), upd_same, (by rw [ints_len, List.length_take]; show 1 + _ ≤ sizeLine; exact line_of (by omega)), fun m hm' => ?_⟩
      have s3 := s2.trans (same_new (o := .lst ([V.int 0] ++ (ns.take i).map V.int)) hm')
      refine ⟨m, 0 :: ns.take i, rfl, SqL.of upd_same, Nat.succ_pos _, fun z hz hz' => ?_⟩
      rw [hn0 hb z hz hz']
      refine ⟨_, _, rfl, rfl, _, rfl, ?_⟩
      have hL1 := s3 _ _ hL
      have tk : ns.take (i + 1) = ns.take i ++ [n] := take_get hn'
      refine ite2 (fun c => ?_) (fun c => ?_)
      · have c := of_decide_eq_true c
        rw [step, if_pos c] at hu
        refine ⟨_, rfl, .inl ⟨rfl, _, SqL.of hL1⟩, _, rfl, l, _, _, rfl, rfl, hL1, (by rw [ints_len]; exact line_lt (by omega)), ?_⟩
        refine ⟨_, n, acc ++ [1 + ((i : Nat) : Int)], rfl, same_mut (e.trans s3) hl, by rw [upd_same, List.map_append]; rfl, by rw [List.length_append]; exact Nat.succ_le_succ hal, ?_, ?_, ?_⟩
        · rw [hu, next, List.append_assoc]
          rfl
        · rw [tk]; simp
        · intro y hy
          rw [tk, ← List.cons_append, List.mem_append] at hy
          rcases hy with hy | hy
          · exact Int.le_of_lt (Int.lt_of_le_of_lt (hm y hy) c)
          · rw [List.mem_singleton.mp hy]; exact Int.le_refl _
      · refine ⟨_, best, acc, rfl, e.trans s3, hL1, Nat.le_succ_of_le hal, ?_, ?_, ?_⟩
        · rw [step, if_neg (fun z => c (decide_eq_true z))] at hu
          rw [hu, next]
        · rw [tk, ← List.cons_append]; exact List.mem_append_left _ hb
        · intro y hy
          rw [tk, ← List.cons_append, List.mem_append] at hy
          rcases hy with hy | hy
          · exact hm y hy
          · rw [List.mem_singleton.mp hy]; exact Int.not_lt.mp fun z => c (decide_eq_true z)
    · rintro σ H' ⟨v2, best, acc, rfl, e, hL, hal, hu, _⟩
      rw [List.drop_length] at hu
      have hu : recs 1 0 ns = acc := by rw [hu]; exact List.append_nil acc
      exact ⟨_, rfl, k _ _ e ⟨l, rfl, hl, by rw [hu]; exact hL⟩⟩
end
end K16
end
section
set_option maxRecDepth 100000
set_option maxHeartbeats 4000000
namespace K16
open PySem PySem.Spec PyProof.Rows L2
/-! ### what is computed -/
def sg (T t : Int) (cs : List (Int × Int)) : Int := cs.foldl (fun s c => if c.1 ≤ t then max s (min T (c.1 + c.2)) else s) 0
def sights (T : Int) (cs : List (Int × Int)) : List Int := (List.range T.toNat).map fun i => sg T (1 + (i : Nat)) cs
theorem sg_take {T t : Int} {cs : List (Int × Int)} {i : Nat} {c : Int × Int} (h : cs[i]? = some c) : sg T t (cs.take (i + 1)) = if c.1 ≤ t then max (sg T t (cs.take i)) (min T (c.1 + c.2)) else sg T t (cs.take i) := by
  unfold sg
  rw [take_get h, List.foldl_append]
  rfl
theorem sights_take {T : Int} {cs : List (Int × Int)} {acc : List Int} {i : Nat} (h : i < T.toNat) (e : acc = (sights T cs).take i) : acc ++ [sg T (1 + (i : Nat)) cs] = (sights T cs).take (i + 1) := by
  have : (sights T cs)[i]? = some (sg T (1 + (i : Nat)) cs) := by
    unfold sights
    rw [List.getElem?_map, List.getElem?_range h]
    rfl
  rw [take_get this, e]
theorem sights_len (T : Int) (cs : List (Int × Int)) : (sights T cs).length = T.toNat := by unfold sights; rw [List.length_map, List.length_range]
theorem min2 (a b : Int) : (if b < a then b else a) = min a b := by omega
theorem max2 (a b : Int) : (if b > a then b else a) = max a b := by omega
section
variable {P : Program} {w : World} {K : PySem.W.Frag} {mg : Str → Option Value} {base : Heap}
def spSight (K : PySem.W.Frag) : Sp := fun vs H Q E => ∃ (d : Int) (b : Addr) (xs : List V) (cs : List (Int × Int)), vs = [.int d, .ref b] ∧ SqL K H b xs ∧ PairsR K H xs cs ∧ xs.length ≤ 1000 ∧ 0 ≤ d ∧ d ≤ 24 ∧
  (60 < cs.length → Rz E H (cTM K) "what" (.str "calls")) ∧
  (cs.length ≤ 60 → fbad d 1 cs ≠ 0 → Rz E H (cBC K) "row" (.int (fbad d 1 cs))) ∧
  (cs.length ≤ 60 → fbad d 1 cs = 0 → ∀ v H', Same H H' → NewL H H' v (sights d cs) → Q v H')
theorem ok_sight_of (T : Txt w K mg) : Ok P w K mg base (L2.CX P w) 5 "sight_of" ["days", "calls"] (spSight K) := by
  refine Ok.defX (f_sight_of T) (fun _ _ _ _ _ _ us hl => match us, hl with | [_, _], _ => rfl) sc_sight_of (fun vs H Q E h => ?_) (fun f cdv A outer s H vs Q E hr h tk => ?_)
  · obtain ⟨d, b, xs, cs, rfl, _⟩ := h
    rfl
  · obtain ⟨d, b, xs, cs, rfl, hb, hp, hl, hd0, hd, e2, e3, k⟩ := h
    refine ⟨_, (pss_cons (ps_expr (pe_okS (ok_check T) (hr.mono (by decide)) rfl (fun σ => passAt tk σ) (pa_cons pe_str (pa_cons (pv 0) pa_nil))))
      (pss_cons (ps_expr (pe_okS (ok_check T) (hr.mono (by decide)) rfl (fun σ => passAt tk σ) (pa_cons pe_str (pa_cons (pe_callB (len_seqK (K := K) rfl) rfl (n_len T) (by decide +kernel) (pa_cons (pv 1) pa_nil)) pa_nil))))
      (pss_cons (ps_for (passes_of rfl) rfl (pi_enumS rfl (n_enumerate T) (pa_cons (pv 1) pa_nil) (pk_cons pe_int pk_nil)) (pg_tupK (K := K) rfl rfl (pgs_cons (pg_name (i := 2) sc_sight_of.nd rfl (by first | exact Or.inl rfl | exact Or.inr rfl)) (pgs_cons (pg_seqK (K := K) rfl rfl (pgs_cons (pg_name (i := 3) sc_sight_of.nd rfl (by first | exact Or.inl rfl | exact Or.inr rfl)) (pgs_cons (pg_name (i := 4) sc_sight_of.nd rfl (by first | exact Or.inl rfl | exact Or.inr rfl)) pgs_nil))) pgs_nil)))
        (pss_one (ps_if (PW.pt (pw_or (pt_cmpR op_lt (pv 3) pe_int (nomark _)) (pw_or (pt_cmpR op_gt (pv 3) (pv 0) (nomark _)) (pw_or1 (pt_cmpR op_lt (pv 4) pe_int (nomark _)))))) (pss_one (ps_raise rfl tk (pmk_x (x_BadCalls T) (hr.mono (by decide)) rfl (pa_cons (pv 2) pa_nil)))) pss_nil)))
      (pss_cons (ps_set (i := 5) sc_sight_of.nd rfl (by first | exact Or.inl rfl | exact Or.inr rfl) (pe_lst pa_nil))
      (pss_cons (ps_for (passes_of rfl) rfl (pi_range2 rfl (n_range T) (pa_cons pe_int (pa_cons (pe_op op_add (pv 0) pe_int) pa_nil))) (pg_name (i := 6) sc_sight_of.nd rfl (by first | exact Or.inl rfl | exact Or.inr rfl))
        (pss_cons (ps_set (i := 7) sc_sight_of.nd rfl (by first | exact Or.inl rfl | exact Or.inr rfl) pe_int)
      (pss_cons (ps_for (passes_of rfl) rfl (pi_listK (K := K) rfl (pv 1)) (pg_seqK (K := K) rfl rfl (pgs_cons (pg_name (i := 3) sc_sight_of.nd rfl (by first | exact Or.inl rfl | exact Or.inr rfl)) (pgs_cons (pg_name (i := 4) sc_sight_of.nd rfl (by first | exact Or.inl rfl | exact Or.inr rfl)) pgs_nil)))
        (pss_one (ps_if (pt_cmpR op_le (pv 3) (pv 6) (nomark _)) (pss_one (ps_set (i := 7) sc_sight_of.nd rfl (by first | exact Or.inl rfl | exact Or.inr rfl) (pe_callB (call_max2 rfl) rfl (n_max T) (by decide +kernel) (pa_cons (pv 7) (pa_cons (pe_callB (call_min2 rfl) rfl (n_min T) (by decide +kernel) (pa_cons (pv 0) (pa_cons (pe_op op_add (pv 3) (pv 4)) pa_nil))) pa_nil))))) pss_nil)))
      (pss_one (ps_expr (pe_bm PySem.F.plainAttrs_list PySem.F.slot_list_append PySem.F.type_list_append mt_append (pv 5) (pa_cons (pv 7) pa_nil)))))))
      (pss_one (ps_ret (pv 5)))))))), ?_⟩
    refine ⟨_, rfl, "days", d, 24, rfl, lim_days, fun c1 => ?_, fun c1 => absurd hd (by omega)⟩
    refine ⟨_, rfl, _, _, rfl, .inl hb, "calls", _, 60, rfl, lim_calls, fun c2 => ?_, fun c2 => e2 (by rw [hp.len] at c2; omega)⟩
    have c2 : cs.length ≤ 60 := by rw [hp.len] at c2; omega
    have e3 := e3 c2
    have k := k c2
    refine ⟨_, rfl, b, _, 1, rfl, rfl, by decide, by decide, hb, for_enumS (K := K) (xs := xs) (fun i σ H' => ∃ v2 v3 v4, σ = [some (.int d), some (.ref b), v2, v3, v4, none, none, none] ∧ Same H H' ∧ fbad d 1 cs = fbad d (1 + (i : Nat)) (cs.drop i)) ⟨none, none, none, rfl, Same.refl H, rfl⟩ (fun i σ H' _ ⟨_, _, _, _, e, _⟩ => e.seq hb) ?_ ?_⟩
    · rintro i x σ H' t hx ⟨v2, v3, v4, rfl, e, hu⟩ ht
      obtain ⟨c, hc, hr'⟩ := hp.get hx
      have e1 := e.trans (same_new (o := .tup [.int (1 + (i : Nat)), x]) ht)
      have hr1 := hr'.same e1
      rw [drop_get hc] at hu
      have step : fbad d (1 + (i : Nat)) (c :: cs.drop (i + 1)) = if badC d c = true then (1 + ((i : Nat) : Int)) else fbad d (1 + (i : Nat) + 1) (cs.drop (i + 1)) := rfl
      have next : (1 + ((i + 1 : Nat) : Int)) = 1 + (i : Nat) + 1 := by omega
      have bad : badC d c = true → Rz E H (cBC K) "row" (.int (1 + (i : Nat))) := fun q => by
        rw [step, if_pos q] at hu
        rw [hu] at e3
        exact e3 (by omega)
      have good : badC d c = false → fbad d 1 cs = fbad d (1 + ((i + 1 : Nat) : Int)) (cs.drop (i + 1)) := fun q => by
        rw [step, if_neg (fun z => by rw [q] at z; cases z)] at hu
        rw [hu, next]
      refine ⟨t, _, rfl, SqT.of upd_same, rfl, _, _, rfl, _, _, rfl, hr1.unpackN rfl ⟨rfl, ?_⟩⟩
      refine ⟨_, rfl, _, _, rfl, rfl, _, rfl, ?_⟩
      cases q1 : decide (c.1 < 1) with
      | true => exact ⟨_, rfl, mko ((bad (by simp [badC]; have := of_decide_eq_true q1; omega)).at e1)⟩
      | false =>
        refine ⟨_, rfl, _, rfl, _, _, rfl, rfl, _, rfl, ?_⟩
        cases q2 : decide (d < c.1) with
        | true => exact ⟨_, rfl, mko ((bad (by simp [badC]; have := of_decide_eq_true q2; omega)).at e1)⟩
        | false =>
          refine ⟨_, rfl, _, _, rfl, rfl, _, rfl, ?_⟩
          cases q3 : decide (c.2 < 0) with
          | true => exact ⟨_, rfl, mko ((bad (by simp [badC, q3])).at e1)⟩
          | false => exact ⟨_, _, _, rfl, e1, good (by have := of_decide_eq_false q1; have := of_decide_eq_false q2; have := of_decide_eq_false q3; simp [badC]; omega)⟩
    · rintro σ H' ⟨v2, v3, v4, rfl, e, hu⟩
      rw [hp.len, List.drop_length] at hu
      have k := k hu
      clear hu e2 e3
      refine nxE ⟨(by show 0 ≤ sizeLine; decide), fun l hl' => ?_⟩
      have hl0 : H l = none := e.free hl'
      have eL : Same H (upd H' l (.lst [])) := e.trans (same_new hl')
      refine ⟨_, rfl, _, _, rfl, rfl, 1, _, rfl, ⟨by decide, by decide, by omega, by omega⟩,
        for_upto (L := d.toNat) (by omega) (fun i σ H' => ∃ v2 v3 v4 v6 v7 acc, σ = [some (.int d), some (.ref b), v2, v3, v4, some (.ref l), v6, v7] ∧ Same H H' ∧ H' l = some (.lst (acc.map V.int)) ∧ acc = (sights d cs).take i) ⟨_, _, _, _, _, [], rfl, eL, upd_same, rfl⟩ ?_ ?_⟩
      · rintro i σ H' hi ⟨v2, v3, v4, v6, v7, acc, rfl, e, hL, hu⟩
        refine ⟨_, rfl, b, rfl, ⟨_, e.seq hb⟩, for_list (K := K) (xs := xs) (fun j σ H2 => ∃ v2 v3 v4, σ = [some (.int d), some (.ref b), v2, v3, v4, some (.ref l), some (.int (1 + (i : Nat))), some (.int (sg d (1 + (i : Nat)) (cs.take j)))] ∧ Same H H2 ∧ H2 l = some (.lst (acc.map V.int))) ⟨_, _, _, rfl, e, hL⟩ ?_ ?_ ?_⟩
        · rintro j σ H2 _ ⟨_, _, _, _, e2, _⟩
          exact e2.seq hb
        · rintro j x σ H2 hx ⟨v2, v3, v4, rfl, e2, hL2⟩
          obtain ⟨c, hc, hr'⟩ := hp.get hx
          refine (hr'.same e2).unpackN rfl ?_
          refine ⟨_, rfl, _, rfl, _, _, rfl, rfl, _, rfl, ?_⟩
          have stp := sg_take (T := d) (t := 1 + (i : Nat)) hc
          refine ite2 (fun q => ?_) (fun q => ?_)
          · rw [if_pos (of_decide_eq_true q)] at stp
            refine ⟨_, rfl, _, rfl, _, rfl, _, rfl, _, _, rfl, rfl, _, _, rfl, _, _, rfl, ?_⟩
            rw [min2, max2, ← stp]
            exact ⟨_, _, _, rfl, e2, hL2⟩
          · rw [if_neg (fun z => q (decide_eq_true z))] at stp
            rw [← stp]
            exact ⟨_, _, _, rfl, e2, hL2⟩
        · rintro σ H2 ⟨v2, v3, v4, rfl, e2, hL2⟩
          rw [hp.len, List.take_length]
          refine ⟨_, rfl, .inl ⟨rfl, _, SqL.of hL2⟩, _, rfl, l, _, _, rfl, rfl, hL2, (by rw [ints_len, hu, List.length_take, sights_len]; exact line_lt (by omega)), ?_⟩
          refine ⟨_, _, _, _, _, acc ++ [sg d (1 + (i : Nat)) cs], rfl, same_mut e2 hl0, by rw [upd_same, List.map_append]; rfl, sights_take hi hu⟩
      · rintro σ H' ⟨v2, v3, v4, v6, v7, acc, rfl, e, hL, hu⟩
        rw [List.take_of_length_le (by rw [sights_len]; exact Nat.le_refl _)] at hu
        subst hu
        exact ⟨_, rfl, k _ _ e ⟨l, rfl, hl0, hL⟩⟩
def spSightL (K : PySem.W.Frag) : Sp := fun vs H Q _ => ∃ (d : Int) (b : Addr) (xs : List V) (cs : List (Int × Int)), vs = [.int d, .ref b] ∧ SqL K H b xs ∧ PairsR K H xs cs ∧ xs.length ≤ 1000 ∧ 0 ≤ d ∧ d ≤ 24 ∧
  (∀ v H', Same H H' → NewL H H' v (sights d cs) → Q v H')
theorem sg_max {T t : Int} {cs : List (Int × Int)} : ∀ (zs : List Int), (∀ y ∈ 0 :: zs, y ≤ sg T t cs) → sg T t cs ∈ 0 :: zs → ∀ m ∈ 0 :: zs, (∀ y ∈ 0 :: zs, y ≤ m) → m = sg T t cs := fun _ h1 h2 _ h3 h4 => max_eq h3 h4 h2 h1
theorem ok__law_k16_sights (T : Txt w K mg) : Ok P w K mg base CX0 1 "_law_k16_sights" ["days", "calls"] (spSightL K) := by
  refine Ok.def0 (f__law_k16_sights T) (fun _ _ _ _ _ _ us hl => match us, hl with | [_, _], _ => rfl) sc__law_k16_sights (fun vs H Q E h => ?_) (fun f cdv A outer s H vs Q E hr h => ?_)
  · obtain ⟨d, b, xs, cs, rfl, _⟩ := h
    rfl
  · obtain ⟨d, b, xs, cs, rfl, hb, hp, hl, hd0, hd, k⟩ := h
    refine ⟨_, (pss_cons (ps_set (i := 2) sc__law_k16_sights.nd rfl (by first | exact Or.inl rfl | exact Or.inr rfl) (pe_lst pa_nil))
      (pss_cons (ps_for PassesOwn.never rfl (pi_range2 rfl (n_range T) (pa_cons pe_int (pa_cons (pe_op op_add (pv 0) pe_int) pa_nil))) (pg_name (i := 3) sc__law_k16_sights.nd rfl (by first | exact Or.inl rfl | exact Or.inr rfl))
        (pss_one (ps_expr (pe_bm PySem.F.plainAttrs_list PySem.F.slot_list_append PySem.F.type_list_append mt_append (pv 2) (pa_cons (pe_callB (maxK (K := K) rfl rfl) rfl (n_max T) (by decide +kernel) (pa_cons (pe_op op_cat (pe_lst (pa_cons pe_int pa_nil)) (pe_lc (own := [("call", 4)]) rfl sc__law_k16_sights.nd (pi_listK (K := K) rfl (pv 1)) (blkOk_by (N := ["days", "calls", "found", "day", "call"]) (sc := defScope s__law_k16_sights) (by decide +kernel)) (fun _ _ _ _ _ => (pg_name (i := 4) sc__law_k16_sights.nd rfl (by first | exact Or.inl rfl | exact Or.inr rfl))) (fun _ _ _ _ _ => pts_one (pt_cmpR op_le (pe_ix (ix_seqK (K := K) rfl) (pv 4) pe_int (fun _ _ => rfl)) (pv 3) (nomark _))) (fun _ _ _ _ _ => (pe_callB (call_min2 rfl) rfl (n_min T) (by decide +kernel) (pa_cons (pv 0) (pa_cons (pe_op op_add (pe_ix (ix_seqK (K := K) rfl) (pv 4) pe_int (fun _ _ => rfl)) (pe_ix (ix_seqK (K := K) rfl) (pv 4) pe_int (fun _ _ => rfl))) pa_nil)))))) pa_nil)) pa_nil)))))
      (pss_one (ps_ret (pv 2))))), ?_⟩
    refine ⟨(by show 0 ≤ sizeLine; decide), fun l hl0 => ?_⟩
    have eL : Same H (upd H l (.lst [])) := same_new hl0
    refine ⟨_, rfl, _, _, rfl, rfl, 1, _, rfl, ⟨by decide, by decide, by omega, by omega⟩,
        for_upto (L := d.toNat) (by omega) (fun i σ H' => ∃ v3 acc, σ = [some (.int d), some (.ref b), some (.ref l), v3, none] ∧ Same H H' ∧ H' l = some (.lst (acc.map V.int)) ∧ acc = (sights d cs).take i) ⟨_, [], rfl, eL, upd_same, rfl⟩ ?_ ?_⟩
    · rintro i σ H' hi ⟨v3, acc, rfl, e, hL, hu⟩
      refine ⟨_, rfl, .inl ⟨rfl, _, SqL.of hL⟩, ?_⟩
      refine ⟨(by show 1 ≤ sizeLine; decide), fun p hp' => ?_⟩
      have s1 : Same H' (upd H' p (.lst [V.int 0])) := same_new hp'
      refine ⟨_, rfl, b, rfl, ⟨_, (e.trans s1).seq hb⟩, fun D hD => lc_acc (K := K) (a := b) (xs := xs) hD ((e.trans s1).seq hb) (by omega) (fun j acc _ => ∃ zs : List Int, acc = zs.map V.int ∧ (∀ y ∈ 0 :: zs, y ≤ sg d (1 + (i : Nat)) (cs.take j)) ∧ sg d (1 + (i : Nat)) (cs.take j) ∈ 0 :: zs) (fun _ _ => ⟨[], rfl, (fun y hy => by rw [List.mem_singleton.mp hy]; exact Int.le_refl _), List.mem_singleton.mpr rfl⟩) ?_ ?_⟩
      · rintro j x acc H2 N N0 hx s2 hacc ⟨zs, rfl, hm, hb'⟩ hN hN0
        obtain ⟨c, hc, hr'⟩ := hp.get hx
        have hr1 := hr'.same ((e.trans s1).trans s2)
        have stp := sg_take (T := d) (t := 1 + (i : Nat)) hc
        refine ⟨rfl, ?_⟩
        refine ⟨_, rfl, hr1.ix0 ⟨_, rfl, _, _, rfl, rfl, _, rfl, ?_⟩⟩
        refine ite2 (fun q => ?_) (fun q => ?_)
        · rw [if_pos (of_decide_eq_true q)] at stp
          refine ⟨_, rfl, _, rfl, hr1.ix0 ⟨_, rfl, hr1.ix1 ⟨_, _, rfl, rfl, _, _, rfl, ?_⟩⟩⟩
          rw [min2]
          refine hN _ _ (Same.refl _) fun _ _ _ => ⟨zs ++ [min d (c.1 + c.2)], by rw [List.map_append]; rfl, ?_, ?_⟩
          · intro y hy
            rw [← List.cons_append, List.mem_append] at hy
            rw [stp]
            rcases hy with hy | hy
            · exact Int.le_trans (hm y hy) (Int.le_max_left _ _)
            · rw [List.mem_singleton.mp hy]; exact Int.le_max_right _ _
          · rw [stp, ← List.cons_append, List.mem_append]
            rcases Int.le_total (sg d (1 + (i : Nat)) (cs.take j)) (min d (c.1 + c.2)) with z | z
            · rw [Int.max_eq_right z]; exact .inr (List.mem_singleton.mpr rfl)
            · rw [Int.max_eq_left z]; exact .inl hb'
        · rw [if_neg (fun z => q (decide_eq_true z))] at stp
          refine hN0 _ (Same.refl _) ⟨zs, rfl, ?_⟩
          rw [stp]
          exact ⟨hm, hb'⟩
      · rintro acc' H2 s2 hacc hal ⟨zs, rfl, hm, hb'⟩
        rw [hp.len, List.take_length] at hm hb'
        refine ⟨p, D, _, _, rfl, rfl, s2 _ _ upd_same, hacc, ?_, fun q hq => ?_⟩
        · rw [ints_len] at hal ⊢; show 1 + _ ≤ sizeLine; exact line_of (by omega)
        have s3 := (s1.trans s2).trans (same_new (o := .lst ([V.int 0] ++ zs.map V.int)) hq)
        refine ⟨q, 0 :: zs, rfl, SqL.of upd_same, Nat.succ_pos _, fun z hz hz' => ?_⟩
        rw [sg_max zs hm hb' z hz hz']
        have hL1 := s3 _ _ hL
        refine ⟨l, _, _, rfl, rfl, hL1, (by rw [ints_len, hu, List.length_take, sights_len]; exact line_lt (by omega)), ?_⟩
        exact ⟨_, acc ++ [sg d (1 + (i : Nat)) cs], rfl, same_mut (e.trans s3) hl0, by rw [upd_same, List.map_append]; rfl, sights_take hi hu⟩
    · rintro σ H' ⟨v3, acc, rfl, e, hL, hu⟩
      rw [List.take_of_length_le (by rw [sights_len]; exact Nat.le_refl _)] at hu
      subst hu
      exact ⟨_, rfl, k _ _ e ⟨l, rfl, hl0, hL⟩⟩
end
end K16
end
section
set_option maxRecDepth 100000
set_option maxHeartbeats 4000000
namespace K16
open PySem PySem.Spec PyProof.Rows L2
/-! ### rows of ints, each a list or a tuple -/
def RowR (K : PySem.W.Frag) (H : Hp) (x : V) (ns : List Int) : Prop := ∃ t, x = .ref t ∧ (SqL K H t (ns.map V.int) ∨ SqT K H t (ns.map V.int))
theorem RowR.same {K : PySem.W.Frag} {H H' : Hp} (e : Same H H') {x : V} {c : List Int} (h : RowR K H x c) : RowR K H' x c := by
  obtain ⟨t, rfl, h | h⟩ := h
  · exact ⟨t, rfl, .inl (e.seq h)⟩
  · exact ⟨t, rfl, .inr (e.tup h)⟩
def RowsR (K : PySem.W.Frag) (H : Hp) : List V → List (List Int) → Prop := Paired (RowR K H)
theorem RowsR.same {K : PySem.W.Frag} {H H' : Hp} (e : Same H H') {xs : List V} {cs : List (List Int)} (h : RowsR K H xs cs) : RowsR K H' xs cs := Paired.mapP h fun _ _ z => z.same e
theorem RowsR.get {K : PySem.W.Frag} {H : Hp} {xs : List V} {cs : List (List Int)} (h : RowsR K H xs cs) {i : Nat} {x : V} (hx : xs[i]? = some x) : ∃ c, cs[i]? = some c ∧ RowR K H x c := paired_get h hx
theorem RowsR.len {K : PySem.W.Frag} {H : Hp} {xs : List V} {cs : List (List Int)} (h : RowsR K H xs cs) : xs.length = cs.length := Paired.length h
/-- x[i] of such -/
theorem RowR.ix {K : PySem.W.Frag} {H : Hp} {x : V} {ns : List Int} (h : RowR K H x ns) {i : Nat} {z n : Int} (hz : z = (i : Int)) (hn : ns[i]? = some n) {Q : VK} (q : Q (.int n) H) : rIx K x (.int z) H Q := by
  subst hz
  obtain ⟨t, rfl, h | h⟩ := h
  · exact .inl ⟨t, _, _, _, rfl, rfl, h, atI_nat (ints_at hn), q⟩
  · exact .inr (.inl ⟨t, _, _, _, rfl, rfl, h, atI_nat (ints_at hn), q⟩)
/-- m is the greatest at i -/
def ColMax (rows : List (List Int)) (i : Nat) (m : Int) : Prop := (∃ r ∈ rows, r[i]? = some m) ∧ ∀ r ∈ rows, ∀ y, r[i]? = some y → y ≤ m
def AllMax (rows : List (List Int)) (ms : List Int) : Prop := ∀ i m, ms[i]? = some m → ColMax rows i m
theorem getD0 {rows : List (List Int)} (h : 0 < rows.length) : rows[0]? = some (rows.headD []) := by
  cases rows with
  | nil => exact absurd h (by decide)
  | cons r rs => rfl
section
variable {P : Program} {w : World} {K : PySem.W.Frag} {mg : Str → Option Value} {base : Heap}
def spCommon (K : PySem.W.Frag) : Sp := fun vs H Q E => ∃ (b : Addr) (xs : List V) (rows : List (List Int)), vs = [.ref b] ∧ SqL K H b xs ∧ RowsR K H xs rows ∧ xs.length ≤ 1000 ∧ 0 < rows.length ∧ 
  ((∃ r ∈ rows, 24 < r.length) → Rz E H (cTM K) "what" (.str "days")) ∧
  ((∀ r ∈ rows, r.length ≤ 24) → (∃ r ∈ rows, r.length ≠ (rows.headD []).length) → Rz E H (cBS K) "what" (.str "days")) ∧
  ((∀ r ∈ rows, r.length ≤ 24) → (∀ r ∈ rows, r.length = (rows.headD []).length) → ∀ v H' ms, ms.length = (rows.headD []).length → AllMax rows ms → Same H H' → NewL H H' v ms → Q v H')
theorem ok_common_needs (T : Txt w K mg) : Ok P w K mg base (L2.CX P w) 5 "common_needs" ["lists"] (spCommon K) := by
  refine Ok.defX (f_common_needs T) (fun _ _ _ _ _ _ us hl => match us, hl with | [_], _ => rfl) sc_common_needs (fun vs H Q E h => ?_) (fun f cdv A outer s H vs Q E hr h tk => ?_)
  · obtain ⟨b, xs, rows, rfl, _⟩ := h
    rfl
  · obtain ⟨b, xs, rows, rfl, hb, hp, hl, h0, e1, e2, k⟩ := h
    refine ⟨_, (pss_cons (ps_for (passes_of rfl) rfl (pi_listK (K := K) rfl (pv 0)) (pg_name (i := 1) sc_common_needs.nd rfl (by first | exact Or.inl rfl | exact Or.inr rfl))
        (pss_one (ps_expr (pe_okS (ok_check T) (hr.mono (by decide)) rfl (fun σ => passAt tk σ) (pa_cons pe_str (pa_cons (pe_callB (len_seqK (K := K) rfl) rfl (n_len T) (by decide +kernel) (pa_cons (pv 1) pa_nil)) pa_nil))))))
      (pss_cons (ps_for (passes_of rfl) rfl (pi_listK (K := K) rfl (pv 0)) (pg_name (i := 1) sc_common_needs.nd rfl (by first | exact Or.inl rfl | exact Or.inr rfl))
        (pss_one (ps_if (pt_cmpR op_ne (pe_callB (len_seqK (K := K) rfl) rfl (n_len T) (by decide +kernel) (pa_cons (pv 1) pa_nil)) (pe_callB (len_seqK (K := K) rfl) rfl (n_len T) (by decide +kernel) (pa_cons (pe_ix (ix_listK (K := K) rfl) (pv 0) pe_int (fun _ _ => rfl)) pa_nil)) (nomark _)) (pss_one (ps_raise rfl tk (pmk_x (x_BadSetting T) (hr.mono (by decide)) rfl (pa_cons pe_str pa_nil)))) pss_nil)))
      (pss_one (ps_ret (pe_lc (own := [("at", 2)]) rfl sc_common_needs.nd (pi_range1 rfl (n_range T) (pa_cons (pe_callB (len_seqK (K := K) rfl) rfl (n_len T) (by decide +kernel) (pa_cons (pe_ix (ix_listK (K := K) rfl) (pv 0) pe_int (fun _ _ => rfl)) pa_nil)) pa_nil)) (blkOk_by (N := ["lists", "needs", "at"]) (sc := defScope s_common_needs) (by decide +kernel)) (fun _ _ _ _ _ => (pg_name (i := 2) sc_common_needs.nd rfl (by first | exact Or.inl rfl | exact Or.inr rfl))) (fun _ _ _ _ _ => pts_nil) (fun _ _ _ _ _ => (pe_callB (maxK (K := K) rfl rfl) rfl (n_max T) (by decide +kernel) (pa_cons (pe_lc (own := [("needs", 1)]) rfl sc_common_needs.nd (pi_listK (K := K) rfl (pv 0)) (by exact blkOk_by (by kernel_rfl)) (fun _ _ _ _ _ => (pg_name (i := 1) sc_common_needs.nd rfl (by first | exact Or.inl rfl | exact Or.inr rfl))) (fun _ _ _ _ _ => pts_nil) (fun _ _ _ _ _ => (pe_ix (ix_seqK (K := K) rfl) (pv 1) (pv 2) (fun _ _ => rfl)))) pa_nil)))))))), ?_⟩
    refine ⟨_, rfl, b, rfl, ⟨_, hb⟩, for_list (K := K) (xs := xs) (fun j σ H2 => ∃ v1, σ = [some (.ref b), v1, none] ∧ Same H H2 ∧ ∀ r ∈ rows.take j, r.length ≤ 24) ⟨none, rfl, Same.refl H, fun r hr => by cases hr⟩ ?_ ?_ ?_⟩
    · rintro j σ H2 _ ⟨_, _, e, _⟩
      exact e.seq hb
    · rintro j x σ H2 hx ⟨v1, rfl, e, hall⟩
      obtain ⟨r, hr0, t, rfl, hr'⟩ := hp.get hx
      have hr2 : SqL K H2 t (r.map V.int) ∨ SqT K H2 t (r.map V.int) := hr'.imp e.seq e.tup
      refine ⟨_, rfl, _, _, rfl, hr2, "days", _, 24, rfl, lim_days, fun c => ?_, fun c => ?_⟩
      · rw [ints_len] at c
        refine ⟨_, rfl, e, ?_⟩
        rw [take_get hr0]
        intro y hy
        rw [List.mem_append] at hy
        rcases hy with hy | hy
        · exact hall y hy
        · rw [List.mem_singleton.mp hy]; omega
      · rw [ints_len] at c
        exact fun d H3 s3 => e1 ⟨r, List.mem_of_getElem? hr0, by omega⟩ d H3 (e.trans s3)
    · rintro σ H1 ⟨v1, rfl, eA, hall⟩
      rw [hp.len, List.take_length] at hall
      have e2 := e2 hall
      have k := k hall
      clear e1
      obtain ⟨x0, hx0, t0, rfl, hr0⟩ : ∃ x, xs[0]? = some x ∧ RowR K H x (rows.headD []) := by
        obtain ⟨x, hx⟩ : ∃ x, xs[0]? = some x := ⟨xs[0]'(by rw [hp.len]; exact h0), List.getElem?_eq_getElem _⟩
        obtain ⟨c, hc, hR⟩ := hp.get hx
        rw [getD0 h0] at hc
        cases hc
        exact ⟨x, hx, hR⟩
      refine ⟨_, rfl, b, rfl, ⟨_, eA.seq hb⟩, for_list (K := K) (xs := xs) (fun j σ H2 => ∃ v1, σ = [some (.ref b), v1, none] ∧ Same H H2 ∧ ∀ r ∈ rows.take j, r.length = (rows.headD []).length) ⟨v1, rfl, eA, fun r hr => by cases hr⟩ ?_ ?_ ?_⟩
      · rintro j σ H2 _ ⟨_, _, e, _⟩
        exact e.seq hb
      · rintro j x σ H2 hx ⟨v1, rfl, e, hall⟩
        obtain ⟨r, hr1, t, rfl, hr'⟩ := hp.get hx
        have hr2 : SqL K H2 t (r.map V.int) ∨ SqT K H2 t (r.map V.int) := hr'.imp e.seq e.tup
        have hr3 : SqL K H2 t0 ((rows.headD []).map V.int) ∨ SqT K H2 t0 ((rows.headD []).map V.int) := hr0.imp e.seq e.tup
        refine ⟨_, rfl, _, _, rfl, hr2, _, rfl, b, _, 0, _, rfl, rfl, e.seq hb, atI_nat hx0, _, _, rfl, hr3, rfl, _, rfl, ?_⟩
        rw [ints_len, ints_len]
        refine ite2 (fun c => ?_) (fun c => ?_)
        · have c : r.length ≠ (rows.headD []).length := by intro z; rw [z] at c; simp at c
          exact mko (((e2 ⟨r, List.mem_of_getElem? hr1, c⟩).at e))
        · have c : r.length = (rows.headD []).length := by
            by_cases z : r.length = (rows.headD []).length
            · exact z
            · exact absurd (by rw [decide_eq_false (fun q => z (by injection q with q; omega))]; rfl) c
          refine ⟨_, rfl, e, ?_⟩
          rw [take_get hr1]
          intro y hy
          rw [List.mem_append] at hy
          rcases hy with hy | hy
          · exact hall y hy
          · rw [List.mem_singleton.mp hy]; exact c
      · rintro σ H2 ⟨v1, rfl, e, hall'⟩
        rw [hp.len, List.take_length] at hall'
        have k := k hall'
        clear e2
        have hr3 : SqL K H2 t0 ((rows.headD []).map V.int) ∨ SqT K H2 t0 ((rows.headD []).map V.int) := hr0.imp e.seq e.tup
        have hD24 : (rows.headD []).length ≤ 24 := hall _ (List.mem_of_getElem? (getD0 h0))
        refine ⟨_, rfl, b, _, 0, _, rfl, rfl, e.seq hb, atI_nat hx0, _, _, rfl, hr3, _, rfl, ?_⟩
        refine ⟨by omega, by rw [ints_len]; omega, fun D hD => lc_upto (lo := 0) (L := (rows.headD []).length) (by rw [ints_len]; omega) hD (by omega) (fun i acc _ => ∃ ms : List Int, acc = ms.map V.int ∧ ms.length = i ∧ AllMax rows ms) (fun _ _ => ⟨[], rfl, rfl, fun i m h => by cases h⟩) ?_ ?_⟩
        · rintro i acc H3 N N0 hi s3 hacc ⟨ms, rfl, hml, hmax⟩ hN hN0
          refine ⟨rfl, ?_⟩
          refine ⟨_, rfl, b, rfl, ⟨_, (e.trans s3).seq hb⟩, fun D2 hD2 => lc_acc (K := K) (a := b) (xs := xs) hD2 ((e.trans s3).seq hb) (by omega) (fun j acc _ => ∃ zs : List Int, acc = zs.map V.int ∧ zs.length = j ∧ (∀ z ∈ zs, ∃ r ∈ rows, r[i]? = some z) ∧ (∀ r ∈ rows.take j, ∀ y, r[i]? = some y → y ∈ zs)) (fun _ _ => ⟨[], rfl, rfl, (fun z hz => by cases hz), (fun r hr => by cases hr)⟩) ?_ ?_⟩
          · rintro j x acc H4 N1 N10 hx s4 hacc4 ⟨zs, rfl, hzl, hz1, hz2⟩ hN1 hN10
            obtain ⟨r, hr1, hr'⟩ := hp.get hx
            have hr2 := hr'.same ((e.trans s3).trans s4)
            have hir : i < r.length := by rw [hall' r (List.mem_of_getElem? hr1)]; exact hi
            obtain ⟨n, hn⟩ := ints_ix hir
            refine ⟨rfl, ?_⟩
            refine ⟨_, rfl, _, rfl, hr2.ix (i := i) (by omega) hn ?_⟩
            refine hN1 _ _ (Same.refl _) fun _ _ _ => ⟨zs ++ [n], by rw [List.map_append]; rfl, by rw [List.length_append, hzl]; rfl, ?_, ?_⟩
            · intro z hz
              rw [List.mem_append] at hz
              rcases hz with hz | hz
              · exact hz1 z hz
              · rw [List.mem_singleton.mp hz]; exact ⟨r, List.mem_of_getElem? hr1, hn⟩
            · intro q hq y hy
              rw [take_get hr1, List.mem_append] at hq
              rw [List.mem_append]
              rcases hq with hq | hq
              · exact .inl (hz2 q hq y hy)
              · rw [List.mem_singleton.mp hq, hn] at hy
                exact .inr (List.mem_singleton.mpr (Option.some.inj hy).symm)
          · rintro acc' H4 s4 hacc4 _ ⟨zs, rfl, hzl, hz1, hz2⟩
            rw [hp.len, List.take_length] at hz2
            refine ⟨D2, zs, rfl, SqL.of hacc4, by rw [hzl, hp.len]; exact h0, fun m hm hm' => ?_⟩
            refine hN _ _ s4 fun _ _ _ => ⟨ms ++ [m], by rw [List.map_append]; rfl, by rw [List.length_append, hml]; rfl, ?_⟩
            intro i' m' h
            rcases Nat.lt_or_ge i' ms.length with c | c
            · rw [List.getElem?_append_left c] at h
              exact hmax i' m' h
            · rw [List.getElem?_append_right c] at h
              have : i' - ms.length = 0 := by
                have := (List.getElem?_eq_some_iff.mp h).1
                simp at this
                omega
              rw [this] at h
              have : i' = i := by omega
              subst this
              cases h
              exact ⟨hz1 m hm, fun r hr y hy => hm' y (hz2 r hr y hy)⟩
        · rintro acc' H3 s3 hacc _ ⟨ms, rfl, hml, hmax⟩
          exact k _ _ ms hml hmax (e.trans s3) ⟨D, rfl, (e.free hD), hacc⟩
end
end K16
end
section
set_option maxRecDepth 100000
set_option maxHeartbeats 4000000
namespace K16
open PySem PySem.Spec PyProof.Rows L2
section
variable {P : Program} {w : World} {K : PySem.W.Frag} {mg : Str → Option Value} {base : Heap}
def spLow (K : PySem.W.Frag) : Sp := fun vs H Q _ => ∃ (a : Addr) (ns : List Int) (i : Nat) (d n r : Int), vs = [.ref a, .int d, .int r] ∧ SqL K H a (ns.map V.int) ∧ d = 1 + (i : Int) ∧ ns[i]? = some n ∧ Q (.int (max 1 (n - r))) H
theorem ok__law_k16_low (T : Txt w K mg) : Ok P w K mg base CX0 1 "_law_k16_low" ["needs", "day", "reach"] (spLow K) := by
  refine Ok.def0 (f__law_k16_low T) (fun _ _ _ _ _ _ us hl => match us, hl with | [_, _, _], _ => rfl) sc__law_k16_low (fun vs H Q E h => ?_) (fun f cdv A outer s H vs Q E hr h => ?_)
  · obtain ⟨a, ns, i, d, n, r, rfl, _⟩ := h
    rfl
  · obtain ⟨a, ns, i, d, n, r, rfl, ha, rfl, hn, k⟩ := h
    refine ⟨_, (pss_one (ps_ret (pe_callB (call_max2 rfl) rfl (n_max T) (by decide +kernel) (pa_cons pe_int (pa_cons (pe_op op_sub (pe_ix (ix_listK (K := K) rfl) (pv 0) (pe_op op_sub (pv 1) pe_int) (fun _ _ => rfl)) (pv 2)) pa_nil))))), ?_⟩
    refine ⟨_, rfl, _, rfl, _, _, rfl, rfl, a, _, _, _, rfl, rfl, ha, at_of (by omega) (ints_at hn), _, rfl, _, _, rfl, rfl, _, _, rfl, ?_⟩
    rw [max1]
    exact k
def spVis (K : PySem.W.Frag) : Sp := fun vs H Q _ => ∃ (a : Addr) (ns : List Int) (r : Int), vs = [.ref a, .int r] ∧ SqL K H a (ns.map V.int) ∧ ns.length ≤ 1000 ∧ 
  (nev r 1 ns ≠ 0 → ∀ v H', Same H H' → NevR H' v (nev r 1 ns) → Q v H') ∧
  (nev r 1 ns = 0 → ∀ v H', Same H H' → CallsR H H' v (grd r 0 1 ns) → Q v H')
def VisI (H : Hp) (a l : Addr) (r : Int) (ns : List Int) (i : Nat) (σ : L2.St) (H' : Hp) : Prop := ∃ v2 last acc, σ = [some (.ref a), some (.int r), v2, some (.ref l), none] ∧ Same H H' ∧ H' l = some (.lst (acc.map V.int)) ∧ acc.length ≤ i ∧ grd r 0 1 ns = acc ++ grd r last (1 + (i : Nat)) (ns.drop i) ∧ (∀ y ∈ acc, y ≤ last) ∧ last ≤ (i : Int) ∧ (last ∈ acc ∨ acc = [] ∧ last = 0)
theorem ok__law_k16_visits (T : Txt w K mg) : Ok P w K mg base CX0 2 "_law_k16_visits" ["needs", "reach"] (spVis K) := by
  refine Ok.def0 (f__law_k16_visits T) (fun _ _ _ _ _ _ us hl => match us, hl with | [_, _], _ => rfl) sc__law_k16_visits (fun vs H Q E h => ?_) (fun f cdv A outer s H vs Q E hr h => ?_)
  · obtain ⟨a, ns, r, rfl, _⟩ := h
    rfl
  · obtain ⟨a, ns, r, rfl, ha, hn, k1, k2⟩ := h
    refine ⟨_, (pss_cons (ps_for PassesOwn.never rfl (pi_range2 rfl (n_range T) (pa_cons pe_int (pa_cons (pe_op op_add (pe_callB (len_seqK (K := K) rfl) rfl (n_len T) (by decide +kernel) (pa_cons (pv 0) pa_nil)) pe_int) pa_nil))) (pg_name (i := 2) sc__law_k16_visits.nd rfl (by first | exact Or.inl rfl | exact Or.inr rfl))
        (pss_one (ps_if (PW.pt (pw_and (pt_cmpR op_gt (pe_ix (ix_listK (K := K) rfl) (pv 0) (pe_op op_sub (pv 2) pe_int) (fun _ _ => rfl)) pe_int (nomark _)) (pw_and1 (pt_cmpR op_gt (pe_op op_sub (pe_ix (ix_listK (K := K) rfl) (pv 0) (pe_op op_sub (pv 2) pe_int) (fun _ _ => rfl)) (pv 1)) (pv 2) (nomark _))))) (pss_one (ps_ret (pe_tup (pa_cons pe_str (pa_cons (pv 2) pa_nil))))) pss_nil)))
      (pss_cons (ps_set (i := 3) sc__law_k16_visits.nd rfl (by first | exact Or.inl rfl | exact Or.inr rfl) (pe_lst pa_nil))
      (pss_cons (ps_for PassesOwn.never rfl (pi_range2 rfl (n_range T) (pa_cons pe_int (pa_cons (pe_op op_add (pe_callB (len_seqK (K := K) rfl) rfl (n_len T) (by decide +kernel) (pa_cons (pv 0) pa_nil)) pe_int) pa_nil))) (pg_name (i := 2) sc__law_k16_visits.nd rfl (by first | exact Or.inl rfl | exact Or.inr rfl))
        (pss_one (ps_if (PW.pt (pw_and (pt_cmpR op_gt (pe_ix (ix_listK (K := K) rfl) (pv 0) (pe_op op_sub (pv 2) pe_int) (fun _ _ => rfl)) pe_int (nomark _)) (pw_and1 (pt_cmpR op_eq (pe_callB (len_seqK (K := K) rfl) rfl (n_len T) (by decide +kernel) (pa_cons (pe_lc (own := [("one", 4)]) rfl sc__law_k16_visits.nd (pi_listK (K := K) rfl (pv 3)) (blkOk_by (N := ["needs", "reach", "day", "taken", "one"]) (sc := defScope s__law_k16_visits) (by decide +kernel)) (fun _ _ _ _ _ => (pg_name (i := 4) sc__law_k16_visits.nd rfl (by first | exact Or.inl rfl | exact Or.inr rfl))) (fun _ _ _ _ _ => pts_one (pt_chain op_le op_le (pe_ok (ok__law_k16_low T) (hr.mono (by decide)) rfl pass0 (pa_cons (pv 0) (pa_cons (pv 2) (pa_cons (pv 1) pa_nil)))) (pv 4) (pv 2))) (fun _ _ _ _ _ => (pv 4))) pa_nil)) pe_int (nomark _))))) (pss_one (ps_expr (pe_bm PySem.F.plainAttrs_list PySem.F.slot_list_append PySem.F.type_list_append mt_append (pv 3) (pa_cons (pv 2) pa_nil)))) pss_nil)))
      (pss_one (ps_ret (pe_tup (pa_cons pe_str (pa_cons (pv 3) pa_nil)))))))), ?_⟩
    refine ⟨_, rfl, _, _, rfl, .inl ha, _, _, rfl, rfl, 1, _, rfl, ⟨by decide, by decide, by rw [ints_len]; omega, by rw [ints_len]; omega⟩,
      for_upto (L := ns.length) (by rw [ints_len]; omega) (fun i σ H' => ∃ v2, σ = [some (.ref a), some (.int r), v2, none, none] ∧ Same H H' ∧ nev r 1 ns = nev r (1 + (i : Nat)) (ns.drop i)) ⟨none, rfl, Same.refl H, rfl⟩ ?_ ?_⟩
    · rintro i σ H' hi ⟨v2, rfl, e, hu⟩
      obtain ⟨n, hn'⟩ := ints_ix hi
      have hA : ∀ H2, Same H' H2 → SqL K H2 a (ns.map V.int) := fun H2 s2 => (e.trans s2).seq ha
      rw [drop_get hn'] at hu
      have step : nev r (1 + (i : Nat)) (n :: ns.drop (i + 1)) = if 0 < n ∧ (1 + ((i : Nat) : Int)) < n - r then (1 + ((i : Nat) : Int)) else nev r (1 + (i : Nat) + 1) (ns.drop (i + 1)) := rfl
      have next : (1 + ((i + 1 : Nat) : Int)) = 1 + (i : Nat) + 1 := by omega
      refine ⟨_, rfl, _, rfl, _, _, rfl, rfl, a, _, _, _, rfl, rfl, hA _ (Same.refl _), at_of (by omega) (ints_at hn'), _, _, rfl, rfl, _, rfl, ?_⟩
      refine ite2 (fun c => ?_) (fun c => ?_)
      · have c := of_decide_eq_true c
        refine ⟨_, rfl, _, rfl, _, _, rfl, rfl, a, _, _, _, rfl, rfl, hA _ (Same.refl _), at_of (by omega) (ints_at hn'), _, rfl, _, _, rfl, rfl, _, rfl, _, _, rfl, rfl, _, rfl, ?_⟩
        refine ite2 (fun c3 => ?_) (fun c3 => ?_)
        · have c3 := of_decide_eq_true c3
          rw [step, if_pos ⟨c, c3⟩] at hu
          refine ⟨_, rfl, (by show 2 ≤ sizeLine; decide), fun p hp => ?_⟩
          rw [hu] at k1
          exact k1 (by omega) _ _ (e.trans (same_new hp)) ⟨p, rfl, upd_same⟩
        · refine ⟨_, rfl, e, ?_⟩
          rw [step, if_neg (fun z => c3 (decide_eq_true z.2))] at hu
          rw [hu, next]
      · refine ⟨_, rfl, e, ?_⟩
        rw [step, if_neg (fun z => c (decide_eq_true z.1))] at hu
        rw [hu, next]
    · rintro σ H' ⟨v2, rfl, e, hu⟩
      rw [List.drop_length] at hu
      have k2 := k2 hu
      clear k1 hu
      refine nxE ⟨(by show 0 ≤ sizeLine; decide), fun l hl => ?_⟩
      have hl0 : H l = none := e.free hl
      have eL : Same H (upd H' l (.lst [])) := e.trans (same_new hl)
      refine ⟨_, rfl, _, _, rfl, .inl (eL.seq ha), _, _, rfl, rfl, 1, _, rfl, ⟨by decide, by decide, by rw [ints_len]; omega, by rw [ints_len]; omega⟩,
        for_upto (L := ns.length) (by rw [ints_len]; omega) (VisI H a l r ns) ⟨_, 0, [], rfl, eL, upd_same, Nat.le_refl _, rfl, (fun y hy => by cases hy), Int.le_refl _, .inr ⟨rfl, rfl⟩⟩ ?_ ?_⟩
      · rintro i σ H' hi ⟨v2, last, acc, rfl, e, hL, hal, hu, hm, hli, hin⟩
        obtain ⟨n, hn'⟩ := ints_ix hi
        have hA : ∀ H2, Same H' H2 → SqL K H2 a (ns.map V.int) := fun H2 s2 => (e.trans s2).seq ha
        rw [drop_get hn'] at hu
        have step : grd r last (1 + (i : Nat)) (n :: ns.drop (i + 1)) = if 0 < n ∧ last < max 1 (n - r) then (1 + ((i : Nat) : Int)) :: grd r (1 + (i : Nat)) (1 + (i : Nat) + 1) (ns.drop (i + 1)) else grd r last (1 + (i : Nat) + 1) (ns.drop (i + 1)) := rfl
        have next : (1 + ((i + 1 : Nat) : Int)) = 1 + (i : Nat) + 1 := by omega
        have skip : ∀ v2 H2, ¬ (0 < n ∧ last < max 1 (n - r)) → Same H' H2 → VisI H a l r ns (i + 1) [some (.ref a), some (.int r), v2, some (.ref l), none] H2 := fun v2 H2 z s2 => by
          rw [step, if_neg z] at hu
          refine ⟨_, last, acc, rfl, e.trans s2, s2 _ _ hL, Nat.le_succ_of_le hal, ?_, hm, by omega, hin⟩
          rw [hu, next]
        refine ⟨_, rfl, _, rfl, _, _, rfl, rfl, a, _, _, _, rfl, rfl, hA _ (Same.refl _), at_of (by omega) (ints_at hn'), _, _, rfl, rfl, _, rfl, ?_⟩
        refine ite2 (fun c => ?_) (fun c => ?_)
        · have c := of_decide_eq_true c
          -- len([one for one in taken if low <= one <= day]) == 0
          refine ⟨_, rfl, l, rfl, ⟨_, SqL.of hL⟩, fun D hD => lc_acc (K := K) (a := l) (xs := acc.map V.int) hD (SqL.of hL) (by rw [ints_len]; omega) (fun j ys _ => ys.length = 0 ↔ ∀ y ∈ acc.take j, y < max 1 (n - r)) (fun _ _ => ⟨(fun _ y hy => by cases hy), fun _ => rfl⟩) ?_ ?_⟩
          · rintro j x ys H2 N N0 hx s2 hacc hys hN hN0
            obtain ⟨y, hy, rfl⟩ := ints_get hx
            refine ⟨rfl, ?_⟩
            have yl : y ≤ 1 + (i : Int) := by have := hm y (List.mem_of_getElem? hy); omega
            refine ⟨_, rfl, _, rfl, _, rfl, a, ns, i, _, n, r, rfl, hA _ s2, rfl, hn', _, rfl, _, _, rfl, rfl, _, rfl, ?_⟩
            refine ite2 (fun q => ?_) (fun q => ?_)
            · have q := of_decide_eq_true q
              refine ⟨_, rfl, _, _, rfl, rfl, _, rfl, ?_⟩
              rw [decide_eq_true yl]
              refine iteT ⟨_, rfl, hN _ _ (Same.refl _) fun _ _ _ => ⟨fun z => ?_, fun z => ?_⟩⟩
              · rw [List.length_append] at z; exact absurd z (Nat.succ_ne_zero _)
              · exact absurd (z y (by rw [take_get hy]; simp)) (by omega)
            · have q : ¬ max 1 (n - r) ≤ y := fun z => q (decide_eq_true z)
              refine ⟨_, rfl, hN0 _ (Same.refl _) ?_⟩
              rw [hys, take_get hy]
              constructor
              · intro z w hw
                rw [List.mem_append] at hw
                rcases hw with hw | hw
                · exact z w hw
                · rw [List.mem_singleton.mp hw]; omega
              · exact fun z w hw => z w (List.mem_append_left _ hw)
          · rintro ys H2 s2 hacc _ hys
            rw [ints_len, List.take_length] at hys
            refine ⟨D, ys, rfl, .inl (SqL.of hacc), rfl, _, rfl, ?_⟩
            have key : ys.length = 0 ↔ last < max 1 (n - r) := by
              rw [hys]
              constructor
              · intro z
                rcases hin with hin | ⟨_, h0⟩
                · exact z _ hin
                · omega
              · exact fun z y hy => by have := hm y hy; omega
            refine ite2 (fun c3 => ?_) (fun c3 => ?_)
            · have c3 : ys.length = 0 := by
                have := of_decide_eq_true c3
                injection this with this
                omega
              have hL1 := s2 _ _ hL
              rw [step, if_pos ⟨c, key.mp c3⟩] at hu
              refine ⟨_, rfl, .inl ⟨rfl, _, SqL.of hL1⟩, _, rfl, l, _, _, rfl, rfl, hL1, (by rw [ints_len]; exact line_lt (by omega)), ?_⟩
              refine ⟨_, 1 + (i : Nat), acc ++ [1 + ((i : Nat) : Int)], rfl, same_mut (e.trans s2) hl0, by rw [upd_same, List.map_append]; rfl, by rw [List.length_append]; exact Nat.succ_le_succ hal, ?_, ?_, ?_, ?_⟩
              · rw [hu, next, List.append_assoc]
                rfl
              · intro y hy
                rw [List.mem_append] at hy
                rcases hy with hy | hy
                · have := hm y hy; omega
                · rw [List.mem_singleton.mp hy]; exact Int.le_refl _
              · omega
              · exact .inl (List.mem_append_right _ (List.mem_singleton.mpr rfl))
            · exact skip _ _ (fun z => c3 (decide_eq_true (by rw [key.mpr z.2]; rfl))) s2
        · exact skip _ _ (fun z => c (decide_eq_true z.1)) (Same.refl _)
      · rintro σ H' ⟨v2, last, acc, rfl, e, hL, hal, hu, _⟩
        rw [List.drop_length] at hu
        have hu : grd r 0 1 ns = acc := by rw [hu]; exact List.append_nil acc
        refine ⟨_, rfl, (by show 2 ≤ sizeLine; decide), fun p hp => ?_⟩
        refine k2 _ _ (e.trans (same_new hp)) ⟨p, l, rfl, upd_same, ?_, hl0, e.free hp, (ne_of_none hL hp).symm⟩
        rw [upd_ne (ne_of_none hL hp), hu]
        exact hL
end
end K16
end
section
set_option maxRecDepth 100000
set_option maxHeartbeats 4000000
namespace K16
open PySem PySem.Spec PyProof.Rows L2
/-! ### what is computed -/
def subs (ns : List Int) : List (List Int) := ns.foldl (fun f x => f ++ f.map (· ++ [x])) [[]]
theorem subs_take {ns : List Int} {i : Nat} {x : Int} (h : ns[i]? = some x) : subs (ns.take (i + 1)) = subs (ns.take i) ++ (subs (ns.take i)).map (· ++ [x]) := by
  unfold subs
  rw [take_get h, List.foldl_append]
  rfl
theorem subs_len : ∀ (ns : List Int) (f : List (List Int)), (ns.foldl (fun f x => f ++ f.map (· ++ [x])) f).length = f.length * 2 ^ ns.length
  | [], f => by simp
  | n :: t, f => by
    rw [List.foldl_cons, subs_len t, List.length_append, List.length_map, List.length_cons, Nat.pow_succ, ← Nat.mul_two, Nat.mul_assoc, Nat.mul_comm 2]
theorem subs_bound (ns : List Int) (h : ns.length ≤ 8) : (subs ns).length ≤ 256 := by
  unfold subs
  rw [subs_len]
  have : 2 ^ ns.length ≤ 2 ^ 8 := Nat.pow_le_pow_right (by decide) h
  simpa using this
theorem subs_row : ∀ (ns : List Int) (f : List (List Int)) (k : Nat), (∀ r ∈ f, r.length ≤ k) → ∀ r ∈ ns.foldl (fun f x => f ++ f.map (· ++ [x])) f, r.length ≤ k + ns.length
  | [], f, k, h, r, hr => h r hr
  | n :: t, f, k, h, r, hr => by
    have := subs_row t _ (k + 1) (fun q hq => by
      rw [List.mem_append] at hq
      rcases hq with hq | hq
      · exact Nat.le_succ_of_le (h q hq)
      · obtain ⟨z, hz, rfl⟩ := List.mem_map.mp hq
        rw [List.length_append]
        exact Nat.succ_le_succ (h z hz)) r hr
    rw [List.length_cons]; omega
def RowD (K : PySem.W.Frag) (D : Addr) (H : Hp) (x : V) (r : List Int) : Prop := ∃ t, x = .ref t ∧ t ≠ D ∧ H t = some (.lst (r.map V.int))
theorem RowD.but {K : PySem.W.Frag} {D : Addr} {H H' : Hp} (e : But D H H') {x : V} {r : List Int} (h : RowD K D H x r) : RowD K D H' x r := by
  obtain ⟨t, rfl, n, h⟩ := h
  exact ⟨t, rfl, n, e _ _ h n⟩
theorem RowD.same {K : PySem.W.Frag} {D : Addr} {H H' : Hp} (e : Same H H') {x : V} {r : List Int} (h : RowD K D H x r) : RowD K D H' x r := by
  obtain ⟨t, rfl, n, h⟩ := h
  exact ⟨t, rfl, n, e _ _ h⟩
/-- rows, each a list -/
def RowLs (K : PySem.W.Frag) (H : Hp) (x : V) (r : List Int) : Prop := ∃ t, x = .ref t ∧ H t = some (.lst (r.map V.int))
theorem RowLs.same {K : PySem.W.Frag} {H H' : Hp} (e : Same H H') {x : V} {r : List Int} (h : RowLs K H x r) : RowLs K H' x r := by
  obtain ⟨t, rfl, h⟩ := h
  exact ⟨t, rfl, e _ _ h⟩
def Apart (r : Int) (ns ds : List Int) : Prop := ∀ (i : Nat) (x y : Int), ds[i]? = some x → ds[i + 1]? = some y → ∃ (k : Nat) (n : Int), y = 1 + (k : Int) ∧ ns[k]? = some n ∧ x < max 1 (n - r)
section
variable {P : Program} {w : World} {K : PySem.W.Frag} {mg : Str → Option Value} {base : Heap}
def spApart (K : PySem.W.Frag) : Sp := fun vs H Q _ => ∃ (a b : Addr) (ns ds : List Int) (r : Int), vs = [.ref a, .int r, .ref b] ∧ SqL K H a (ns.map V.int) ∧ SqL K H b (ds.map V.int) ∧ ds.length ≤ 1000 ∧ Apart r ns ds ∧ Q (.bl true) H
theorem ok__law_k16_apart (T : Txt w K mg) : Ok P w K mg base CX0 2 "_law_k16_apart" ["needs", "reach", "days"] (spApart K) := by
  refine Ok.def0 (f__law_k16_apart T) (fun _ _ _ _ _ _ us hl => match us, hl with | [_, _, _], _ => rfl) sc__law_k16_apart (fun vs H Q E h => ?_) (fun f cdv A outer s H vs Q E hr h => ?_)
  · obtain ⟨a, b, ns, ds, r, rfl, _⟩ := h
    rfl
  · obtain ⟨a, b, ns, ds, r, rfl, ha, hb, hn, hap, k⟩ := h
    refine ⟨_, (pss_cons (ps_for PassesOwn.never rfl (pi_range2 rfl (n_range T) (pa_cons pe_int (pa_cons (pe_callB (len_seqK (K := K) rfl) rfl (n_len T) (by decide +kernel) (pa_cons (pv 2) pa_nil)) pa_nil))) (pg_name (i := 3) sc__law_k16_apart.nd rfl (by first | exact Or.inl rfl | exact Or.inr rfl))
        (pss_one (ps_if (pt_cmpR op_le (pe_ok (ok__law_k16_low T) (hr.mono (by decide)) rfl pass0 (pa_cons (pv 0) (pa_cons (pe_ix (ix_listK (K := K) rfl) (pv 2) (pv 3) (fun _ _ => rfl)) (pa_cons (pv 1) pa_nil)))) (pe_ix (ix_listK (K := K) rfl) (pv 2) (pe_op op_sub (pv 3) pe_int) (fun _ _ => rfl)) (nomark _)) (pss_one (ps_ret pe_bl)) pss_nil)))
      (pss_one (ps_ret pe_bl))), ?_⟩
    refine ⟨_, rfl, _, _, rfl, .inl hb, 1, _, rfl, ⟨by decide, by decide, by rw [ints_len]; omega, by rw [ints_len]; omega⟩,
      for_upto (L := ds.length - 1) (by rw [ints_len]; omega) (fun i σ H' => ∃ v2, σ = [some (.ref a), some (.int r), some (.ref b), v2] ∧ H' = H) ⟨none, rfl, rfl⟩ ?_ ?_⟩
    · rintro i σ H' hi ⟨v2, rfl, rfl⟩
      obtain ⟨x, hx⟩ := ints_ix (ns := ds) (i := i) (by omega)
      obtain ⟨y, hy⟩ := ints_ix (ns := ds) (i := i + 1) (by omega)
      obtain ⟨j, n, rfl, hn', hlt⟩ := hap i x y hx hy
      refine ⟨_, rfl, _, rfl, _, rfl, b, _, _, _, rfl, rfl, hb, at_of (by omega) (ints_at hy), _, rfl, a, ns, j, _, n, r, rfl, ha, rfl, hn', ?_⟩
      refine ⟨_, rfl, _, rfl, _, _, rfl, rfl, b, _, _, _, rfl, rfl, hb, at_of (by omega) (ints_at hx), _, _, rfl, rfl, _, rfl, ?_⟩
      refine ite2 (fun c => ?_) (fun c => ?_)
      · have c := of_decide_eq_true c
        exact absurd hlt (by omega)
      · exact ⟨_, rfl, rfl⟩
    · rintro σ H' ⟨v2, rfl, rfl⟩
      exact k
def spSubs (K : PySem.W.Frag) : Sp := fun vs H Q _ => ∃ (a : Addr) (ns : List Int), vs = [.ref a] ∧ SqL K H a (ns.map V.int) ∧ ns.length ≤ 8 ∧ ∀ l xs H', Same H H' → H' l = some (.lst xs) → Paired (RowLs K H') xs (subs ns) → Q (.ref l) H'
theorem ok__law_e_subsets (T : Txt w K mg) : Ok P w K mg base CX0 1 "_law_e_subsets" ["things"] (spSubs K) := by
  refine Ok.def0 (f__law_e_subsets T) (fun _ _ _ _ _ _ us hl => match us, hl with | [_], _ => rfl) sc__law_e_subsets (fun vs H Q E h => ?_) (fun f cdv A outer s H vs Q E hr h => ?_)
  · obtain ⟨a, ns, rfl, _⟩ := h
    rfl
  · obtain ⟨a, ns, rfl, ha, hn, k⟩ := h
    refine ⟨_, (pss_cons (ps_set (i := 1) sc__law_e_subsets.nd rfl (by first | exact Or.inl rfl | exact Or.inr rfl) (pe_lst (pa_cons (pe_lst pa_nil) pa_nil)))
      (pss_cons (ps_for PassesOwn.never rfl (pi_listK (K := K) rfl (pv 0)) (pg_name (i := 2) sc__law_e_subsets.nd rfl (by first | exact Or.inl rfl | exact Or.inr rfl))
        (pss_one (ps_set (i := 1) sc__law_e_subsets.nd rfl (by first | exact Or.inl rfl | exact Or.inr rfl) (pe_op op_cat (pv 1) (pe_lc (own := [("row", 3)]) rfl sc__law_e_subsets.nd (pi_listK (K := K) rfl (pv 1)) (blkOk_by (N := ["things", "found", "thing", "row"]) (sc := defScope s__law_e_subsets) (by decide +kernel)) (fun _ _ _ _ _ => (pg_name (i := 3) sc__law_e_subsets.nd rfl (by first | exact Or.inl rfl | exact Or.inr rfl))) (fun _ _ _ _ _ => pts_nil) (fun _ _ _ _ _ => (pe_op op_cat (pv 3) (pe_lst (pa_cons (pv 2) pa_nil)))))))))
      (pss_one (ps_ret (pv 1))))), ?_⟩
    refine ⟨(by show 0 ≤ sizeLine; decide), fun p hp => ⟨(by show 1 ≤ sizeLine; decide), fun q hq => ?_⟩⟩
    have e1 : Same H (upd H p (.lst [])) := same_new hp
    have e2 := e1.trans (same_new (o := .lst [V.ref p]) hq)
    refine ⟨_, rfl, a, rfl, ⟨_, e2.seq ha⟩, for_list (K := K) (xs := ns.map V.int) (fun i σ H' => ∃ l v2 v3 xs, σ = [some (.ref a), some (.ref l), v2, v3] ∧ Same H H' ∧ H' l = some (.lst xs) ∧ Paired (RowLs K H') xs (subs (ns.take i))) ⟨q, _, _, [V.ref p], rfl, e2, upd_same, .cons ⟨p, rfl, by rw [upd_ne (ne_of_none upd_same hq), upd_same]; rfl⟩ .nil⟩ (fun i σ H' _ ⟨_, _, _, _, _, e, _⟩ => e.seq ha) ?_ ?_⟩
    · rintro i x σ H' hx ⟨l, v2, v3, xs, rfl, e, hL, hR⟩
      obtain ⟨n, hn', rfl⟩ := ints_get hx
      have hi : i < ns.length := (List.getElem?_eq_some_iff.mp hn').1
      have hlen : xs.length ≤ 256 := by
        rw [Paired.length hR]
        exact subs_bound _ (by rw [List.length_take]; omega)
      have stp := subs_take hn'
      refine ⟨_, rfl, _, rfl, l, rfl, ⟨_, SqL.of hL⟩, fun D hD => lc_acc (K := K) (a := l) (xs := xs) hD (SqL.of hL) (by omega) (fun j acc H2 => Paired (RowD K D H2) acc (((subs (ns.take i)).take j).map (· ++ [n]))) (fun _ _ => .nil) ?_ ?_⟩
      · rintro j x acc H2 N N0 hx2 s2 hacc hP hN hN0
        obtain ⟨r, hr1, t, rfl, ht⟩ := paired_get hR hx2
        refine ⟨rfl, ?_⟩
        refine ⟨_, rfl, _, rfl, (by show 1 ≤ sizeLine; decide), fun u hu => ?_⟩
        have s3 : Same H2 (upd H2 u (.lst [V.int n])) := same_new hu
        have ht2 := s3 _ _ (s2 _ _ ht)
        have hrl : r.length ≤ 100 := by
          have := subs_row (ns.take i) [[]] 0 (fun r hr => by rw [List.mem_singleton.mp hr]; exact Nat.le_refl _) r (List.mem_of_getElem? hr1)
          rw [List.length_take] at this
          omega
        refine ⟨t, u, _, _, rfl, rfl, ht2, upd_same, (by rw [ints_len]; show _ + 1 ≤ sizeLine; exact line_of (by omega)), fun p' hp' => ?_⟩
        have s4 := s3.trans (same_new (o := .lst (r.map V.int ++ [V.int n])) hp')
        have hpD : p' ≠ D := fun z => by rw [z, s3 _ _ hacc] at hp'; cases hp'
        refine hN _ _ s4 fun H5 b5 _ => ?_
        rw [take_get hr1, List.map_append]
        refine paired_snoc (Paired.mapP hP fun _ _ z => (z.same s4).but b5) ⟨p', rfl, hpD, ?_⟩
        refine b5 _ _ ?_ hpD
        rw [upd_same, List.map_append]; rfl
      · rintro acc H2 s2 hacc hal hP
        rw [Paired.length hR, List.take_length] at hP
        refine ⟨l, D, xs, acc, rfl, rfl, s2 _ _ hL, hacc, (by exact line_of (by omega)), fun p' hp' => ?_⟩
        have s3 := s2.trans (same_new (o := .lst (xs ++ acc)) hp')
        refine ⟨p', _, _, xs ++ acc, rfl, e.trans s3, upd_same, ?_⟩
        rw [stp]
        refine paired_app (Paired.mapP hR fun _ _ z => z.same s3) (Paired.mapP hP fun _ _ z => ?_)
        obtain ⟨t, rfl, _, ht⟩ := z
        exact ⟨t, rfl, same_new hp' _ _ ht⟩
    · rintro σ H' ⟨l, v2, v3, xs, rfl, e, hL, hR⟩
      rw [ints_len, List.take_length] at hR
      exact ⟨_, rfl, k l xs H' e hL hR⟩
end
end K16
end
section
set_option maxRecDepth 100000
set_option maxHeartbeats 4000000
namespace K16
open PySem PySem.Spec PyProof.Rows L2
/-! ### what is computed -/
/-- do visits on these days serve all -/
def Srv (r : Int) (ns ds : List Int) : Prop := uns (ds.map fun d => (d, r)) 1 ns = 0
def FewI (r : Int) (ns : List Int) (rows : List (List Int)) (v : V) : Prop := (v = .non ∧ ∀ ds ∈ rows, ¬ Srv r ns ds) ∨ ∃ k : Int, v = .int k ∧ (∃ ds ∈ rows, Srv r ns ds ∧ ds.length = k) ∧ ∀ ds ∈ rows, Srv r ns ds → k ≤ ds.length
def oneTo (n : Nat) : List Int := (List.range n).map fun i => (1 + ((i : Nat) : Int))
section
variable {P : Program} {w : World} {K : PySem.W.Frag} {mg : Str → Option Value} {base : Heap}
def spFewest (K : PySem.W.Frag) : Sp := fun vs H Q _ => ∃ (a : Addr) (ns : List Int) (r : Int), vs = [.ref a, .int r] ∧ SqL K H a (ns.map V.int) ∧ ns.length ≤ 8 ∧ ∀ v H', Same H H' → FewI r ns (subs (oneTo ns.length)) v → Q v H'
theorem FewI.step {r : Int} {ns : List Int} {rows : List (List Int)} {v : V} {ds : List Int} (h : FewI r ns rows v) :
    (¬ Srv r ns ds → FewI r ns (rows ++ [ds]) v) ∧ (Srv r ns ds → (v = .non ∨ ∃ k : Int, v = .int k ∧ ds.length < k) → FewI r ns (rows ++ [ds]) (.int ds.length)) ∧ ((∃ k : Int, v = .int k ∧ k ≤ ds.length) → FewI r ns (rows ++ [ds]) v) := by
  refine ⟨fun hs => ?_, fun hs hv => ?_, fun hv => ?_⟩
  · rcases h with ⟨rfl, h⟩ | ⟨k, rfl, ⟨d0, h1, h2⟩, h3⟩
    · refine .inl ⟨rfl, fun d hd => ?_⟩
      rcases List.mem_append.mp hd with hd | hd
      · exact h d hd
      · rw [List.mem_singleton.mp hd]; exact hs
    · refine .inr ⟨k, rfl, ⟨d0, List.mem_append_left _ h1, h2⟩, fun d hd hs' => ?_⟩
      rcases List.mem_append.mp hd with hd | hd
      · exact h3 d hd hs'
      · rw [List.mem_singleton.mp hd] at hs'; exact absurd hs' hs
  · refine .inr ⟨_, rfl, ⟨ds, List.mem_append_right _ (List.mem_singleton.mpr rfl), hs, rfl⟩, fun d hd hs' => ?_⟩
    rcases List.mem_append.mp hd with hd | hd
    · rcases h with ⟨rfl, h⟩ | ⟨k, rfl, _, h3⟩
      · exact absurd hs' (h d hd)
      · rcases hv with hv | ⟨k', e, hk⟩
        · cases hv
        · cases e
          have := h3 d hd hs'
          omega
    · rw [List.mem_singleton.mp hd]; exact Int.le_refl _
  · obtain ⟨k', rfl, hk⟩ := hv
    rcases h with ⟨h, _⟩ | ⟨k, e, ⟨d0, h1, h2⟩, h3⟩
    · cases h
    · cases e
      refine .inr ⟨_, rfl, ⟨d0, List.mem_append_left _ h1, h2⟩, fun d hd hs' => ?_⟩
      rcases List.mem_append.mp hd with hd | hd
      · exact h3 d hd hs'
      · rw [List.mem_singleton.mp hd]; exact hk
theorem ok__law_k16_fewest (T : Txt w K mg) : Ok P w K mg base CX0 3 "_law_k16_fewest" ["needs", "reach"] (spFewest K) := by
  refine Ok.def0 (f__law_k16_fewest T) (fun _ _ _ _ _ _ us hl => match us, hl with | [_, _], _ => rfl) sc__law_k16_fewest (fun vs H Q E h => ?_) (fun f cdv A outer s H vs Q E hr h => ?_)
  · obtain ⟨a, ns, r, rfl, _⟩ := h
    rfl
  · obtain ⟨a, ns, r, rfl, ha, hn, k⟩ := h
    refine ⟨_, (pss_cons (ps_set (i := 2) sc__law_k16_fewest.nd rfl (by first | exact Or.inl rfl | exact Or.inr rfl) pe_non)
      (pss_cons (ps_for PassesOwn.never rfl (pi_listK (K := K) rfl (pe_ok (ok__law_e_subsets T) (hr.mono (by decide)) rfl pass0 (pa_cons (pe_listRg rfl rfl (n_list T) (prg_2 rfl (n_range T) pe_int (pe_op op_add (pe_callB (len_seqK (K := K) rfl) rfl (n_len T) (by decide +kernel) (pa_cons (pv 0) pa_nil)) pe_int))) pa_nil))) (pg_name (i := 3) sc__law_k16_fewest.nd rfl (by first | exact Or.inl rfl | exact Or.inr rfl))
        (pss_one (ps_if (PW.pt (pw_and (PW.pt (pw_or (pt_cmpR op_isN (pv 2) pe_non (nomark _)) (pw_or1 (pt_cmpR op_lt (pe_callB (len_seqK (K := K) rfl) rfl (n_len T) (by decide +kernel) (pa_cons (pv 3) pa_nil)) (pv 2) (nomark _))))) (pw_and1 (pt_cmpR op_eq (pe_ok (ok__law_e_unserved T) (hr.mono (by decide)) rfl pass0 (pa_cons (pv 0) (pa_cons (pe_lc (own := [("day", 4)]) rfl sc__law_k16_fewest.nd (pi_listK (K := K) rfl (pv 3)) (blkOk_by (N := ["needs", "reach", "best", "row", "day"]) (sc := defScope s__law_k16_fewest) (by decide +kernel)) (fun _ _ _ _ _ => (pg_name (i := 4) sc__law_k16_fewest.nd rfl (by first | exact Or.inl rfl | exact Or.inr rfl))) (fun _ _ _ _ _ => pts_nil) (fun _ _ _ _ _ => (pe_tup (pa_cons (pv 4) (pa_cons (pv 1) pa_nil))))) pa_nil))) pe_int (nomark _))))) (pss_one (ps_set (i := 2) sc__law_k16_fewest.nd rfl (by first | exact Or.inl rfl | exact Or.inr rfl) (pe_callB (len_seqK (K := K) rfl) rfl (n_len T) (by decide +kernel) (pa_cons (pv 3) pa_nil)))) pss_nil)))
      (pss_one (ps_ret (pv 2))))), ?_⟩
    refine ⟨_, rfl, _, _, rfl, .inl ha, _, _, rfl, rfl, 1, _, rfl, rfl, ⟨by decide, by decide, by rw [ints_len]; omega, by rw [ints_len]; omega, by rw [ints_len]; omega⟩, fun q hq => ?_⟩
    have e1 : Same H (upd H q (.lst (rgV 1 ((ns.map V.int).length + 1)))) := same_new hq
    have hrg : rgV 1 ((ns.map V.int).length + 1) = (oneTo ns.length).map V.int := by
      unfold rgV oneTo
      rw [ints_len, List.map_map]
      congr 2
      omega
    rw [hrg] at e1 ⊢
    refine ⟨q, oneTo ns.length, rfl, SqL.of upd_same, by unfold oneTo; rw [List.length_map, List.length_range]; exact hn, fun l xs H1 s1 hL hR => ?_⟩
    have e2 := e1.trans s1
    have hxl : xs.length ≤ 256 := by rw [Paired.length hR]; exact subs_bound _ (by unfold oneTo; rw [List.length_map, List.length_range]; exact hn)
    refine ⟨l, rfl, ⟨_, SqL.of hL⟩, for_list (K := K) (xs := xs) (fun i σ H' => ∃ best v3, σ = [some (.ref a), some (.int r), some best, v3, none] ∧ Same H1 H' ∧ FewI r ns ((subs (oneTo ns.length)).take i) best) ⟨.non, _, rfl, Same.refl _, .inl ⟨rfl, fun d hd => by cases hd⟩⟩ (fun i σ H' _ ⟨_, _, _, e, _⟩ => e.seq (SqL.of hL)) ?_ ?_⟩
    · rintro i x σ H' hx ⟨best, v3, rfl, e, hI⟩
      obtain ⟨ds, hds, t, rfl, ht⟩ := paired_get hR hx
      have ht := e _ _ ht
      have hdl : ds.length ≤ 8 := by
        have := subs_row (oneTo ns.length) [[]] 0 (fun r hr => by rw [List.mem_singleton.mp hr]; exact Nat.le_refl _) ds (List.mem_of_getElem? hds)
        unfold oneTo at this
        rw [List.length_map, List.length_range] at this
        omega
      obtain ⟨st1, st2, st3⟩ := hI.step (ds := ds)
      rw [← take_get hds] at st1 st2 st3
      have sec : ∀ (Q' : Bool → Hp → Prop), (∀ b H2, Same H' H2 → (b = true ↔ Srv r ns ds) → Q' b H2) → tTest (tOp rEq (tCall (spUns K) [] E0 (tCons (tVar 0) (tCons (tLc (iList K (tVar 3)) (gName 4) tYes (tTup (tCons (tVar 4) (tCons (tVar 1) tNil))) [4]) tNil))) (tC (V.int 0))) [some (.ref a), some (.int r), some best, some (.ref t), none] H' Q' := by
        intro Q' hQ
        refine ⟨_, rfl, _, rfl, t, rfl, ⟨_, SqL.of ht⟩, fun D hD => lc_acc (K := K) (a := t) (xs := ds.map V.int) hD (SqL.of ht) (by rw [ints_len]; omega) (fun j acc H2 => PairsD K D H2 acc ((ds.take j).map fun d => (d, r))) (fun _ _ => .nil) ?_ ?_⟩
        · rintro j x acc H2 N N0 hx2 s2 hacc hP hN hN0
          obtain ⟨d, hd, rfl⟩ := ints_get hx2
          refine ⟨rfl, ?_⟩
          refine ⟨_, rfl, _, rfl, (by show 2 ≤ sizeLine; decide), fun p hp => ?_⟩
          have s3 : Same H2 (upd H2 p (.tup [V.int d, V.int r])) := same_new hp
          have hpD : p ≠ D := fun z => by rw [z, hacc] at hp; cases hp
          refine hN _ _ s3 fun H5 b5 _ => ?_
          rw [take_get hd, List.map_append]
          exact paired_snoc ((PairsD.same s3 hP).but b5) ⟨⟨p, rfl, .inl (b5.tup hpD (SqT.of upd_same))⟩, fun z => hpD (V.ref.inj z)⟩
        · rintro acc H2 s2 hacc hal hP
          rw [ints_len, List.take_length] at hP
          rw [ints_len] at hal
          refine ⟨a, D, ns, acc, _, rfl, ((e2.trans e).trans s2).seq ha, SqL.of hacc, hP.prs, by omega, by omega, fun H3 s3 => ⟨rfl, _, rfl, hQ _ _ (s2.trans s3) ?_⟩⟩
          unfold Srv
          constructor
          · intro z
            have := of_decide_eq_true z
            injection this
          · intro z
            rw [z]
            rfl
      rcases hI with ⟨hb, hI'⟩ | ⟨k', hb, hI'⟩
      · subst hb
        refine ⟨_, rfl, rfl, _, rfl, sec _ fun b H2 s2 hb => ?_⟩
        refine ite2 (fun c => ?_) (fun c => ?_)
        · exact ⟨_, rfl, _, _, rfl, .inl (SqL.of (s2 _ _ ht)), _, _, rfl, e.trans s2, by rw [ints_len]; exact st2 (hb.mp c) (.inl rfl)⟩
        · exact ⟨_, _, rfl, e.trans s2, st1 fun z => c (hb.mpr z)⟩
      · subst hb
        refine ⟨_, rfl, rfl, _, rfl, iteF ⟨_, rfl, _, _, rfl, .inl (SqL.of ht), _, rfl, _, _, rfl, rfl, _, rfl, ?_⟩⟩
        rw [ints_len]
        refine ite2 (fun c => sec _ fun b H2 s2 hb => ?_) (fun c => ?_)
        · have c := of_decide_eq_true c
          refine ite2 (fun c => ?_) (fun c => ?_)
          · exact ⟨_, rfl, _, _, rfl, .inl (SqL.of (s2 _ _ ht)), _, _, rfl, e.trans s2, by rw [ints_len]; exact st2 (hb.mp c) (.inr ⟨_, rfl, by assumption⟩)⟩
          · exact ⟨_, _, rfl, e.trans s2, st1 fun z => c (hb.mpr z)⟩
        · exact ⟨_, _, rfl, e, st3 ⟨_, rfl, Int.not_lt.mp fun z => c (decide_eq_true z)⟩⟩
    · rintro σ H' ⟨best, v3, rfl, e, hI⟩
      rw [Paired.length hR, List.take_length] at hI
      exact ⟨_, rfl, k _ _ (e2.trans e) hI⟩
end
end K16
end
section
set_option maxRecDepth 100000
set_option maxHeartbeats 4000000
namespace K16
open PySem PySem.Spec PyProof.Rows L2
/-! ### the plain law -/
theorem uns_zero {cs : List (Int × Int)} : ∀ (t : List Int) (d : Int), 1 ≤ d → (uns cs d t = 0 ↔ ∀ (j : Nat) n, t[j]? = some n → 0 < n → cs.any (served (d + j) n) = true)
  | [], d, _ => ⟨fun _ j n h => by simp at h, fun _ => rfl⟩
  | m :: t, d, hd => by
    have ih := uns_zero (cs := cs) t (d + 1) (by omega)
    unfold uns
    by_cases c : 0 < m ∧ cs.any (served d m) = false
    · rw [if_pos c]
      constructor
      · intro z; omega
      · intro z
        have := z 0 m rfl c.1
        have e : d + ((0 : Nat) : Int) = d := by omega
        rw [e, c.2] at this
        cases this
    · rw [if_neg c, ih]
      constructor
      · intro z j n hj hn
        cases j with
        | zero =>
          cases hj
          have e : d + ((0 : Nat) : Int) = d := by omega
          rw [e]
          cases q : cs.any (served d m) with
          | true => rfl
          | false => exact absurd ⟨hn, q⟩ c
        | succ j =>
          have := z j n hj hn
          have e : d + ((j + 1 : Nat) : Int) = d + 1 + (j : Int) := by omega
          rw [e]; exact this
      · intro z j n hj hn
        have := z (j + 1) n hj hn
        have e : d + ((j + 1 : Nat) : Int) = d + 1 + (j : Int) := by omega
        rw [e] at this; exact this
theorem nev_zero {r : Int} : ∀ (t : List Int) (d : Int), 1 ≤ d → (nev r d t = 0 ↔ ∀ (j : Nat) n, t[j]? = some n → 0 < n → n - r ≤ d + j)
  | [], d, _ => ⟨fun _ j n h => by simp at h, fun _ => rfl⟩
  | m :: t, d, hd => by
    have ih := nev_zero (r := r) t (d + 1) (by omega)
    unfold nev
    by_cases c : 0 < m ∧ d < m - r
    · rw [if_pos c]
      constructor
      · intro z; omega
      · intro z
        have := z 0 m rfl c.1
        omega
    · rw [if_neg c, ih]
      constructor
      · intro z j n hj hn
        cases j with
        | zero => cases hj; omega
        | succ j => have := z j n hj hn; omega
      · intro z j n hj hn
        have := z (j + 1) n hj hn
        omega
/-- the visits serve -/
theorem grd_hit {r : Int} : ∀ (t : List Int) (d l : Int), 1 ≤ d → l ≤ d - 1 → nev r d t = 0 → ∀ (j : Nat) n, t[j]? = some n → 0 < n → ∃ x, (x = l ∨ x ∈ grd r l d t) ∧ max 1 (n - r) ≤ x ∧ x ≤ d + j
  | [], _, _, _, _, _, j, n, h, _ => by simp at h
  | m :: t, d, l, hd, hl, hv, j, n, hj, hn => by
    have hv' := (nev_zero (m :: t) d hd).mp hv
    have hvt : nev r (d + 1) t = 0 := (nev_zero t (d + 1) (by omega)).mpr fun j n h h0 => by have := hv' (j + 1) n h h0; omega
    unfold grd
    by_cases c : 0 < m ∧ l < max 1 (m - r)
    · rw [if_pos c]
      cases j with
      | zero =>
        cases hj
        have := hv' 0 m rfl hn
        exact ⟨d, .inr List.mem_cons_self, by omega, by omega⟩
      | succ j =>
        obtain ⟨x, hx, h1, h2⟩ := grd_hit t (d + 1) d (by omega) (by omega) hvt j n hj hn
        refine ⟨x, .inr ?_, h1, by omega⟩
        rcases hx with rfl | hx
        · exact List.mem_cons_self
        · exact List.mem_cons_of_mem _ hx
    · rw [if_neg c]
      cases j with
      | zero =>
        cases hj
        exact ⟨l, .inl rfl, by omega, by omega⟩
      | succ j =>
        obtain ⟨x, hx, h1, h2⟩ := grd_hit t (d + 1) l (by omega) (by omega) hvt j n hj hn
        exact ⟨x, hx, h1, by omega⟩
theorem any_of {α : Type} {p : α → Bool} {l : List α} {x : α} (h : x ∈ l) (hp : p x = true) : l.any p = true := List.any_eq_true.mpr ⟨x, h, hp⟩
theorem grd_srv {r : Int} {ns : List Int} (h : nev r 1 ns = 0) : Srv r ns (grd r 0 1 ns) := by
  unfold Srv
  rw [uns_zero ns 1 (by omega)]
  intro j n hj hn
  obtain ⟨x, hx, h1, h2⟩ := grd_hit ns 1 0 (by omega) (by omega) h j n hj hn
  rcases hx with rfl | hx
  · omega
  · refine any_of (List.mem_map.mpr ⟨x, hx, rfl⟩) ?_
    simp [served]
    omega
/-- a day that a visit serves -/
theorem srv_hit {r : Int} {ns ds : List Int} (h : Srv r ns ds) {j : Nat} {n : Int} (hj : ns[j]? = some n) (hn : 0 < n) : ∃ x ∈ ds, x ≤ 1 + (j : Int) ∧ n - r ≤ x := by
  have := (uns_zero ns 1 (by omega)).mp h j n hj hn
  obtain ⟨c, hc, hs⟩ := List.any_eq_true.mp this
  obtain ⟨x, hx, rfl⟩ := List.mem_map.mp hc
  refine ⟨x, hx, ?_⟩
  simp [served] at hs
  omega
theorem nev_never {r : Int} {ns : List Int} (h : nev r 1 ns ≠ 0) (ds : List Int) : ¬ Srv r ns ds := by
  intro hs
  apply h
  rw [nev_zero ns 1 (by omega)]
  intro j n hj hn
  obtain ⟨x, _, h1, h2⟩ := srv_hit hs hj hn
  omega
/-! ### no fewer do -/
def lo (r : Int) (ns : List Int) (y : Int) : Int := max 1 (ns.getD (y - 1).toNat 0 - r)
def Chain (f : Int → Int) : Int → List Int → Prop
  | _, [] => True
  | b, y :: t => b < f y ∧ Chain f y t
theorem grd_chain {r : Int} {ns : List Int} : ∀ (t : List Int) (d l : Int), 1 ≤ d → (∀ (j : Nat) n, t[j]? = some n → ns[(d + j - 1).toNat]? = some n) → Chain (lo r ns) l (grd r l d t) ∧ ∀ y ∈ grd r l d t, d ≤ y ∧ ∃ n, ns[(y - 1).toNat]? = some n ∧ 0 < n
  | [], _, _, _, _ => ⟨True.intro, fun y hy => by cases hy⟩
  | m :: t, d, l, hd, h => by
    have hn : ∀ (j : Nat) n, t[j]? = some n → ns[(d + 1 + j - 1).toNat]? = some n := fun j n hj => by
      have := h (j + 1) n hj
      have e : d + ((j + 1 : Nat) : Int) - 1 = d + 1 + (j : Int) - 1 := by omega
      rw [e] at this; exact this
    have h0 : ns[(d - 1).toNat]? = some m := by
      have := h 0 m rfl
      have e : d + ((0 : Nat) : Int) - 1 = d - 1 := by omega
      rw [e] at this; exact this
    unfold grd
    by_cases c : 0 < m ∧ l < max 1 (m - r)
    · rw [if_pos c]
      obtain ⟨h1, h2⟩ := grd_chain t (d + 1) d (by omega) hn
      refine ⟨⟨?_, h1⟩, fun y hy => ?_⟩
      · unfold lo
        rw [List.getD_eq_getElem?_getD, h0]
        exact c.2
      · rcases List.mem_cons.mp hy with rfl | hy
        · exact ⟨Int.le_refl _, m, h0, c.1⟩
        · have := h2 y hy
          exact ⟨by omega, this.2⟩
    · rw [if_neg c]
      obtain ⟨h1, h2⟩ := grd_chain t (d + 1) l (by omega) hn
      exact ⟨h1, fun y hy => ⟨by have := (h2 y hy).1; omega, (h2 y hy).2⟩⟩
theorem filter_lt {p q : Int → Bool} : ∀ (l : List Int), (∀ x, p x = true → q x = true) → (∃ x ∈ l, q x = true ∧ p x = false) → (l.filter p).length < (l.filter q).length
  | [], _, ⟨x, hx, _⟩ => by cases hx
  | a :: t, h, ⟨x, hx, h1, h2⟩ => by
    have le : ∀ t : List Int, (t.filter p).length ≤ (t.filter q).length := fun t => by
      induction t with
      | nil => exact Nat.le_refl _
      | cons b t ih =>
        rw [List.filter_cons, List.filter_cons]
        cases hp : p b with
        | true => rw [if_pos rfl, if_pos (h b hp)]; exact Nat.succ_le_succ ih
        | false =>
          rw [if_neg (by simp)]
          split
          · exact Nat.le_succ_of_le ih
          · exact ih
    rw [List.filter_cons, List.filter_cons]
    rcases List.mem_cons.mp hx with rfl | hx
    · rw [if_neg (by rw [h2]; simp), if_pos h1]
      exact Nat.lt_succ_of_le (le t)
    · have ih := filter_lt t h ⟨x, hx, h1, h2⟩
      cases hp : p a with
      | true => rw [if_pos rfl, if_pos (h a hp)]; exact Nat.succ_lt_succ ih
      | false =>
        rw [if_neg (by simp)]
        split
        · exact Nat.lt_succ_of_lt ih
        · exact ih
theorem chain_count {f : Int → Int} {ds : List Int} : ∀ (ys : List Int) (b : Int), Chain f b ys → (∀ y ∈ ys, ∃ x ∈ ds, f y ≤ x ∧ x ≤ y) → ys.length ≤ (ds.filter fun x => decide (b < x)).length
  | [], _, _, _ => Nat.zero_le _
  | y :: t, b, ⟨h1, h2⟩, h => by
    have ih := chain_count t y h2 fun z hz => h z (List.mem_cons_of_mem _ hz)
    obtain ⟨x, hx, h3, h4⟩ := h y List.mem_cons_self
    have := filter_lt (p := fun x => decide (y < x)) (q := fun x => decide (b < x)) ds (fun z hz => by have := of_decide_eq_true hz; exact decide_eq_true (by omega)) ⟨x, hx, decide_eq_true (by omega), decide_eq_false (by omega)⟩
    rw [List.length_cons]
    omega
theorem grd_least {r : Int} {ns ds : List Int} (hs : Srv r ns ds) (h1 : ∀ x ∈ ds, 1 ≤ x) : (grd r 0 1 ns).length ≤ ds.length := by
  obtain ⟨hc, hm⟩ := grd_chain (r := r) (ns := ns) ns 1 0 (by omega) (fun j n h => by
    have e : (1 + (j : Int) - 1).toNat = j := by omega
    rw [e]; exact h)
  refine Nat.le_trans (chain_count _ 0 hc fun y hy => ?_) (List.length_filter_le _ _)
  obtain ⟨h1', n, hn, h0⟩ := hm y hy
  obtain ⟨x, hx, h2, h3⟩ := srv_hit hs hn h0
  refine ⟨x, hx, ?_, by omega⟩
  unfold lo
  rw [List.getD_eq_getElem?_getD, hn]
  have := h1 x hx
  show max 1 (n - r) ≤ x
  omega
theorem grd_apart {r : Int} {ns : List Int} : Apart r ns (grd r 0 1 ns) := by
  obtain ⟨hc, hm⟩ := grd_chain (r := r) (ns := ns) ns 1 0 (by omega) (fun j n h => by
    have e : (1 + (j : Int) - 1).toNat = j := by omega
    rw [e]; exact h)
  have key : ∀ (ys : List Int) (b : Int), Chain (lo r ns) b ys → ∀ (i : Nat) (x y : Int), ys[i]? = some x → ys[i + 1]? = some y → x < lo r ns y := by
    intro ys
    induction ys with
    | nil => intro b _ i x y hx; simp at hx
    | cons z t ih =>
      rintro b ⟨_, h2⟩ i x y hx hy
      cases i with
      | zero =>
        cases hx
        cases t with
        | nil => simp at hy
        | cons u t' => cases hy; exact h2.1
      | succ i => exact ih z h2 i x y hx hy
  intro i x y hx hy
  obtain ⟨h1, n, hn, _⟩ := hm y (List.mem_of_getElem? hy)
  refine ⟨(y - 1).toNat, n, by omega, hn, ?_⟩
  have := key _ _ hc i x y hx hy
  unfold lo at this
  rw [List.getD_eq_getElem?_getD, hn] at this
  exact this
/-! ### the sets of days -/
def up : Int → Nat → List Int
  | _, 0 => []
  | d, n + 1 => d :: up (d + 1) n
theorem up_map : ∀ (n : Nat) (d : Int), (List.range n).map (fun i => (d + ((i : Nat) : Int))) = up d n
  | 0, _ => rfl
  | n + 1, d => by
    rw [List.range_succ_eq_map, List.map_cons, List.map_map]
    have := up_map n (d + 1)
    unfold up
    rw [← this]
    congr 1
    · simp
    · apply List.map_congr_left
      intro i _
      show d + ((i + 1 : Nat) : Int) = d + 1 + (i : Int)
      omega
theorem oneTo_up (n : Nat) : oneTo n = up 1 n := up_map n 1
theorem grd_sub {r : Int} : ∀ (t : List Int) (d l : Int), (grd r l d t).Sublist (up d t.length)
  | [], _, _ => List.Sublist.slnil
  | m :: t, d, l => by
    unfold grd
    split
    · exact (grd_sub t (d + 1) d).cons₂ d
    · exact (grd_sub t (d + 1) l).cons d
theorem sub_mem : ∀ (ns : List Int) (ds a : List Int) (f : List (List Int)), ds.Sublist ns → a ∈ f → a ++ ds ∈ ns.foldl (fun f x => f ++ f.map (· ++ [x])) f
  | [], ds, a, f, h, ha => by
    cases h
    rw [List.append_nil]
    exact ha
  | x :: t, ds, a, f, h, ha => by
    rw [List.foldl_cons]
    cases h with
    | cons _ h => exact sub_mem t ds a _ h (List.mem_append_left _ ha)
    | @cons_cons l1 _ _ h =>
      have := sub_mem t l1 (a ++ [x]) (f ++ f.map (· ++ [x])) h (List.mem_append_right _ (List.mem_map.mpr ⟨a, ha, rfl⟩))
      rw [List.append_assoc] at this
      exact this
theorem mem_sub : ∀ (ns : List Int) (f : List (List Int)) (S : Int → Prop), (∀ x ∈ ns, S x) → (∀ a ∈ f, ∀ x ∈ a, S x) → ∀ a ∈ ns.foldl (fun f x => f ++ f.map (· ++ [x])) f, ∀ x ∈ a, S x
  | [], f, S, _, h, a, ha => h a ha
  | y :: t, f, S, h0, h, a, ha => by
    rw [List.foldl_cons] at ha
    refine mem_sub t _ S (fun x hx => h0 x (List.mem_cons_of_mem _ hx)) (fun b hb => ?_) a ha
    rcases List.mem_append.mp hb with hb | hb
    · exact h b hb
    · obtain ⟨c, hc, rfl⟩ := List.mem_map.mp hb
      intro x hx
      rcases List.mem_append.mp hx with hx | hx
      · exact h c hc x hx
      · rw [List.mem_singleton.mp hx]; exact h0 y List.mem_cons_self
theorem few_is {r : Int} {ns : List Int} {v : V} (h : FewI r ns (subs (oneTo ns.length)) v) : (nev r 1 ns ≠ 0 → v = .non) ∧ (nev r 1 ns = 0 → v = .int (grd r 0 1 ns).length) := by
  have pos : ∀ ds ∈ subs (oneTo ns.length), ∀ x ∈ ds, 1 ≤ x := mem_sub _ _ (fun x => 1 ≤ x) (fun x hx => by
    unfold oneTo at hx
    obtain ⟨i, _, rfl⟩ := List.mem_map.mp hx
    show 1 ≤ 1 + ((i : Nat) : Int)
    omega) (fun a ha x hx => by rw [List.mem_singleton.mp ha] at hx; cases hx)
  refine ⟨fun hv => ?_, fun hv => ?_⟩
  · rcases h with ⟨h, _⟩ | ⟨k, _, ⟨ds, _, hs, _⟩, _⟩
    · exact h
    · exact absurd hs (nev_never hv ds)
  · have hmem : grd r 0 1 ns ∈ subs (oneTo ns.length) := by
      have := sub_mem (oneTo ns.length) (grd r 0 1 ns) [] [[]] (by rw [oneTo_up]; exact grd_sub ns 1 0) (List.mem_singleton.mpr rfl)
      exact this
    have hsv := grd_srv hv
    rcases h with ⟨_, h⟩ | ⟨k, rfl, ⟨ds, h1, hs, h2⟩, h3⟩
    · exact absurd hsv (h _ hmem)
    · have a1 := h3 _ hmem hsv
      have a2 := grd_least hs (pos ds h1)
      congr 1
      omega
/-! ### sights -/
theorem sg_ge {T t n : Int} : ∀ (cs : List (Int × Int)) (s : Int), n ≤ cs.foldl (fun s c => if c.1 ≤ t then max s (min T (c.1 + c.2)) else s) s ↔ n ≤ s ∨ ∃ c ∈ cs, c.1 ≤ t ∧ n ≤ min T (c.1 + c.2)
  | [], s => ⟨fun h => .inl h, fun h => h.elim id fun ⟨c, hc, _⟩ => by cases hc⟩
  | c :: r, s => by
    rw [List.foldl_cons, sg_ge r]
    by_cases q : c.1 ≤ t
    · rw [if_pos q]
      constructor
      · rintro (h | ⟨c', hc', h⟩)
        · by_cases z : n ≤ s
          · exact .inl z
          · exact .inr ⟨c, List.mem_cons_self, q, by omega⟩
        · exact .inr ⟨c', List.mem_cons_of_mem _ hc', h⟩
      · rintro (h | ⟨c', hc', h⟩)
        · exact .inl (by omega)
        · rcases List.mem_cons.mp hc' with rfl | hc'
          · exact .inl (by omega)
          · exact .inr ⟨c', hc', h⟩
    · rw [if_neg q]
      constructor
      · rintro (h | ⟨c', hc', h⟩)
        · exact .inl h
        · exact .inr ⟨c', List.mem_cons_of_mem _ hc', h⟩
      · rintro (h | ⟨c', hc', h⟩)
        · exact .inl h
        · rcases List.mem_cons.mp hc' with rfl | hc'
          · exact absurd h.1 q
          · exact .inr ⟨c', hc', h⟩
theorem sight_uns {T : Int} {ns : List Int} {cs : List (Int × Int)} (hn : ∀ n ∈ ns, 0 ≤ n ∧ n ≤ T) : uns cs 1 ns = 0 ↔ ∀ (j : Nat) n, ns[j]? = some n → n ≤ sg T (1 + j) cs := by
  rw [uns_zero ns 1 (by omega)]
  constructor
  · intro h j n hj
    have hb := hn n (List.mem_of_getElem? hj)
    unfold sg
    rw [sg_ge]
    by_cases z : n ≤ 0
    · exact .inl z
    · obtain ⟨c, hc, hs⟩ := List.any_eq_true.mp (h j n hj (by omega))
      simp [served] at hs
      exact .inr ⟨c, hc, by omega, by omega⟩
  · intro h j n hj h0
    have := h j n hj
    unfold sg at this
    rw [sg_ge] at this
    rcases this with this | ⟨c, hc, h1, h2⟩
    · omega
    · refine any_of hc ?_
      simp [served]
      omega
end K16
end
section
set_option maxRecDepth 100000
set_option maxHeartbeats 4000000
namespace K16
open PySem PySem.Spec PyProof.Rows L2
section
variable {P : Program} {w : World} {K : PySem.W.Frag} {mg : Str → Option Value} {base : Heap}
theorem stk_upd {H : Hp} {sa : Addr} {a b c : Int} : Stk (upd H sa (stk a b c)) sa := ⟨a, b, c, upd_same⟩
theorem Stk.ne {H : Hp} {sa : Addr} (h : Stk H sa) : H sa ≠ none := by
  obtain ⟨a, b, c, h⟩ := h
  rw [h]
  exact fun z => by cases z
def spDrawn : Sp := fun vs H Q _ => ∃ (sa : Addr) (d : Int), vs = [.ref sa, .int d] ∧ 1 ≤ d ∧ d ≤ 24 ∧ Stk H sa ∧ ∀ l H' (ns : List Int), H l = none → But sa H H' → Stk H' sa → H' l = some (.lst (ns.map V.int)) → ns.length = d.toNat → (∀ n ∈ ns, 0 ≤ n ∧ n ≤ d) → Q (.ref l) H'
theorem ok__law_e_drawn_needs (T : Txt w K mg) : Ok P w K mg base CX0 2 "_law_e_drawn_needs" ["stock", "days"] spDrawn := by
  refine Ok.def0 (f__law_e_drawn_needs T) (fun _ _ _ _ _ _ us hl => match us, hl with | [_, _], _ => rfl) sc__law_e_drawn_needs (fun vs H Q E h => ?_) (fun f cdv A outer s H vs Q E hr h => ?_)
  · obtain ⟨sa, d, rfl, _⟩ := h
    rfl
  · obtain ⟨sa, d, rfl, h1, h2, hs, k⟩ := h
    refine ⟨_, (pss_cons (ps_set (i := 2) sc__law_e_drawn_needs.nd rfl (by first | exact Or.inl rfl | exact Or.inr rfl) (pe_ok (ok__law_draw T) (hr.mono (by decide)) rfl pass0 (pa_cons (pv 0) (pa_cons pe_int pa_nil))))
      (pss_cons (ps_set (i := 3) sc__law_e_drawn_needs.nd rfl (by first | exact Or.inl rfl | exact Or.inr rfl) (pe_lst pa_nil))
      (pss_cons (ps_set (i := 4) sc__law_e_drawn_needs.nd rfl (by first | exact Or.inl rfl | exact Or.inr rfl) pe_int)
      (pss_cons (ps_for PassesOwn.never rfl (pi_range2 rfl (n_range T) (pa_cons pe_int (pa_cons (pe_op op_add (pv 1) pe_int) pa_nil))) (pg_name (i := 5) sc__law_e_drawn_needs.nd rfl (by first | exact Or.inl rfl | exact Or.inr rfl))
        (pss_cons (ps_if (pt_cmpR op_le (pv 2) pe_int (nomark _)) (pss_one (ps_set (i := 6) sc__law_e_drawn_needs.nd rfl (by first | exact Or.inl rfl | exact Or.inr rfl) (pe_ok (ok__law_draw T) (hr.mono (by decide)) rfl pass0 (pa_cons (pv 0) (pa_cons (pe_op op_add (pv 1) pe_int) pa_nil))))) (pss_one (ps_if (pt_cmpR op_eq (pv 2) pe_int (nomark _)) (pss_one (ps_set (i := 6) sc__law_e_drawn_needs.nd rfl (by first | exact Or.inl rfl | exact Or.inr rfl) (pe_ifExp (pt_cmpR op_eq (pe_ok (ok__law_draw T) (hr.mono (by decide)) rfl pass0 (pa_cons (pv 0) (pa_cons pe_int pa_nil))) pe_int (nomark _)) (pv 5) pe_int))) (pss_one (ps_if (pt_cmpR op_eq (pv 2) pe_int (nomark _)) (pss_cons (ps_set (i := 4) sc__law_e_drawn_needs.nd rfl (by first | exact Or.inl rfl | exact Or.inr rfl) (pe_callB (call_min2 rfl) rfl (n_min T) (by decide +kernel) (pa_cons (pv 1) (pa_cons (pe_op op_add (pv 4) (pe_ok (ok__law_draw T) (hr.mono (by decide)) rfl pass0 (pa_cons (pv 0) (pa_cons pe_int pa_nil)))) pa_nil))))
      (pss_one (ps_set (i := 6) sc__law_e_drawn_needs.nd rfl (by first | exact Or.inl rfl | exact Or.inr rfl) (pv 4)))) (pss_one (ps_if (pt_cmpR op_eq (pv 2) pe_int (nomark _)) (pss_one (ps_set (i := 6) sc__law_e_drawn_needs.nd rfl (by first | exact Or.inl rfl | exact Or.inr rfl) (pe_ifExp (pt_cmpR op_eq (pe_ok (ok__law_draw T) (hr.mono (by decide)) rfl pass0 (pa_cons (pv 0) (pa_cons pe_int pa_nil))) pe_int (nomark _)) (pe_ok (ok__law_draw T) (hr.mono (by decide)) rfl pass0 (pa_cons (pv 0) (pa_cons (pe_op op_add (pv 1) pe_int) pa_nil))) pe_int))) (pss_one (ps_set (i := 6) sc__law_e_drawn_needs.nd rfl (by first | exact Or.inl rfl | exact Or.inr rfl) (pe_callB (call_min2 rfl) rfl (n_min T) (by decide +kernel) (pa_cons (pv 1) (pa_cons (pe_callB (call_max2 rfl) rfl (n_max T) (by decide +kernel) (pa_cons pe_int (pa_cons (pe_op op_add (pe_op op_sub (pv 5) pe_int) (pe_ok (ok__law_draw T) (hr.mono (by decide)) rfl pass0 (pa_cons (pv 0) (pa_cons pe_int pa_nil)))) pa_nil))) pa_nil))))))))))))
      (pss_one (ps_expr (pe_bm PySem.F.plainAttrs_list PySem.F.slot_list_append PySem.F.type_list_append mt_append (pv 3) (pa_cons (pv 6) pa_nil))))))
      (pss_one (ps_ret (pv 3))))))), ?_⟩
    refine ⟨_, rfl, sa, 6, rfl, by decide, by decide, hs, fun way x y z hw0 hw1 => ?_⟩
    refine ⟨(by show 0 ≤ sizeLine; decide), fun l hl => ?_⟩
    have b1 : But sa H (upd H sa (stk x y z)) := (But.refl sa H).upd
    have hl0 : H l = none := b1.free (by rw [upd_same]; exact fun z => by cases z) hl
    have b2 := b1.mut (o := .lst []) hl0
    have lsa : l ≠ sa := fun z => hs.ne (z ▸ hl0)
    refine ⟨_, rfl, _, _, rfl, rfl, 1, _, rfl, ⟨by decide, by decide, by omega, by omega⟩,
      for_upto (L := d.toNat) (by omega) (fun i σ H' => ∃ low v5 v6 acc, σ = [some (.ref sa), some (.int d), some (.int way), some (.ref l), some (.int low), v5, v6] ∧ But sa H H' ∧ Stk H' sa ∧ H' l = some (.lst (acc.map V.int)) ∧ acc.length = i ∧ (∀ n ∈ acc, 0 ≤ n ∧ n ≤ d) ∧ 0 ≤ low ∧ low ≤ d) ⟨0, _, _, [], rfl, b2, ⟨x, y, z, by rw [upd_ne (fun z => lsa z.symm)]; exact upd_same⟩, upd_same, rfl, (fun n hn => by cases hn), by omega, by omega⟩ ?_ ?_⟩
    · rintro i σ H' hi ⟨low, v5, v6, acc, rfl, b, hst, hL, hal, hA, hlo, hhi⟩
      refine seq_via (fun σ' H2 => ∃ low n v5, σ' = [some (.ref sa), some (.int d), some (.int way), some (.ref l), some (.int low), v5, some (.int n)] ∧ But sa H' H2 ∧ Stk H2 sa ∧ 0 ≤ n ∧ n ≤ d ∧ 0 ≤ low ∧ low ≤ d) (fun U hU => ?_) ?_
      · refine ⟨_, rfl, _, _, rfl, rfl, _, rfl, ?_⟩
        refine ite2 (fun c => ?_) (fun c => ?_)
        · refine ⟨_, rfl, _, rfl, _, _, rfl, rfl, sa, _, rfl, by omega, by omega, hst, fun r x y z r0 r1 => hU _ _ ⟨_, _, _, rfl, (But.refl sa H').upd, stk_upd, by omega, by omega, hlo, hhi⟩⟩
        refine ⟨_, rfl, rfl, _, rfl, ?_⟩
        refine ite2 (fun c => ?_) (fun c => ?_)
        · refine ⟨_, rfl, sa, 2, rfl, by decide, by decide, hst, fun r x y z r0 r1 => ?_⟩
          refine ⟨rfl, _, rfl, ?_⟩
          refine ite2 (fun c => ?_) (fun c => ?_)
          · exact ⟨_, rfl, hU _ _ ⟨_, _, _, rfl, (But.refl sa H').upd, stk_upd, by omega, by omega, hlo, hhi⟩⟩
          · exact hU _ _ ⟨_, _, _, rfl, (But.refl sa H').upd, stk_upd, by omega, by omega, hlo, hhi⟩
        refine ⟨_, rfl, rfl, _, rfl, ?_⟩
        refine ite2 (fun c => ?_) (fun c => ?_)
        · refine ⟨_, rfl, _, rfl, _, rfl, sa, 3, rfl, by decide, by decide, hst, fun r x y z r0 r1 => ?_⟩
          refine ⟨_, _, rfl, rfl, _, _, rfl, ?_⟩
          rw [min2]
          exact ⟨_, rfl, hU _ _ ⟨_, _, _, rfl, (But.refl sa H').upd, stk_upd, by omega, by omega, by omega, by omega⟩⟩
        refine ⟨_, rfl, rfl, _, rfl, ?_⟩
        refine ite2 (fun c => ?_) (fun c => ?_)
        · refine ⟨_, rfl, sa, 3, rfl, by decide, by decide, hst, fun r x y z r0 r1 => ?_⟩
          refine ⟨rfl, _, rfl, ?_⟩
          refine ite2 (fun c => ?_) (fun c => ?_)
          · refine ⟨_, rfl, _, rfl, _, _, rfl, rfl, sa, _, rfl, by omega, by omega, stk_upd, fun r' x y z r0 r1 => hU _ _ ⟨_, _, _, rfl, ((But.refl sa H').upd).upd, stk_upd, by omega, by omega, hlo, hhi⟩⟩
          · exact hU _ _ ⟨_, _, _, rfl, (But.refl sa H').upd, stk_upd, by omega, by omega, hlo, hhi⟩
        refine ⟨_, rfl, _, rfl, _, _, rfl, rfl, _, rfl, sa, 4, rfl, by decide, by decide, hst, fun r x y z r0 r1 => ?_⟩
        refine ⟨_, _, rfl, rfl, _, _, rfl, _, _, rfl, ?_⟩
        rw [min2, max2]
        exact hU _ _ ⟨_, _, _, rfl, (But.refl sa H').upd, stk_upd, by omega, by omega, hlo, hhi⟩
      · rintro σ H2 ⟨low, n, v5, rfl, b3, hst, n0, n1, l0, l1⟩
        have hL1 := b3 _ _ hL lsa
        refine ⟨_, rfl, .inl ⟨rfl, _, SqL.of hL1⟩, _, rfl, l, _, _, rfl, rfl, hL1, (by rw [ints_len]; exact line_lt (by omega)), ?_⟩
        refine ⟨_, _, _, acc ++ [n], rfl, (b.trans b3).mut hl0, ?_, by rw [upd_same, List.map_append]; rfl, by rw [List.length_append, hal]; rfl, ?_, l0, l1⟩
        · obtain ⟨x, y, z, hst⟩ := hst
          exact ⟨x, y, z, by rw [upd_ne (fun z => lsa z.symm)]; exact hst⟩
        · intro m hm
          rcases List.mem_append.mp hm with hm | hm
          · exact hA m hm
          · rw [List.mem_singleton.mp hm]; exact ⟨n0, n1⟩
    · rintro σ H' ⟨low, v5, v6, acc, rfl, b, hst, hL, hal, hA, _⟩
      exact ⟨_, rfl, k l H' acc hl0 b hst hL hal hA⟩
end
end K16
end
section
set_option maxRecDepth 100000
set_option maxHeartbeats 4000000
namespace K16
open PySem PySem.Spec PyProof.Rows L2
section
variable {P : Program} {w : World} {K : PySem.W.Frag} {mg : Str → Option Value} {base : Heap}
theorem Stk.but {H : Hp} {sa a : Addr} (h : Stk H sa) (n : sa ≠ a) {o : HO} : Stk (upd H a o) sa := by
  obtain ⟨x, y, z, h⟩ := h
  exact ⟨x, y, z, by rw [upd_ne n]; exact h⟩
theorem Stk.new {H : Hp} {sa a : Addr} (h : Stk H sa) (n : H a = none) {o : HO} : Stk (upd H a o) sa := h.but fun z => h.ne (z ▸ n)
theorem Stk.same {H H' : Hp} {sa : Addr} (h : Stk H sa) (e : Same H H') : Stk H' sa := by
  obtain ⟨x, y, z, h⟩ := h
  exact ⟨x, y, z, e _ _ h⟩
def spMix (K : PySem.W.Frag) : Sp := fun vs H Q _ => ∃ (sa a : Addr) (xs : List V), vs = [.ref sa, .ref a] ∧ SqL K H a xs ∧ xs.length ≤ 1000 ∧ a ≠ sa ∧ Stk H sa ∧ ∀ (l : Addr) H' (ys : List V), H l = none → But sa H H' → Stk H' sa → H' l = some (.lst ys) → (∀ y ∈ ys, y ∈ xs) → ys.length = xs.length → Q (.ref l) H'
theorem ok__law_mix (T : Txt w K mg) : Ok P w K mg base CX0 2 "_law_mix" ["stock", "things"] (spMix K) := by
  refine Ok.def0 (f__law_mix T) (fun _ _ _ _ _ _ us hl => match us, hl with | [_, _], _ => rfl) sc__law_mix (fun vs H Q E h => ?_) (fun f cdv A outer s H vs Q E hr h => ?_)
  · obtain ⟨sa, a, xs, rfl, _⟩ := h
    rfl
  · obtain ⟨sa, a, xs, rfl, ha, hl, hasa, hs, k⟩ := h
    refine ⟨_, (pss_cons (ps_set (i := 2) sc__law_mix.nd rfl (by first | exact Or.inl rfl | exact Or.inr rfl) (pe_callTy (list_ofK (K := K) rfl) rfl (n_list T) (by decide +kernel) (pa_cons (pv 1) pa_nil)))
      (pss_cons (ps_set (i := 3) sc__law_mix.nd rfl (by first | exact Or.inl rfl | exact Or.inr rfl) (pe_lst pa_nil))
      (pss_cons (ps_for PassesOwn.never rfl (pi_range1 rfl (n_range T) (pa_cons (pe_callB (len_seqK (K := K) rfl) rfl (n_len T) (by decide +kernel) (pa_cons (pv 1) pa_nil)) pa_nil)) (pg_name (i := 4) sc__law_mix.nd rfl (by first | exact Or.inl rfl | exact Or.inr rfl))
        (pss_one (ps_expr (pe_bm PySem.F.plainAttrs_list PySem.F.slot_list_append PySem.F.type_list_append mt_append (pv 3) (pa_cons (pe_bm PySem.F.plainAttrs_list PySem.F.slot_list_pop PySem.F.type_list_pop mt_popAt (pv 2) (pa_cons (pe_ok (ok__law_draw T) (hr.mono (by decide)) rfl pass0 (pa_cons (pv 0) (pa_cons (pe_callB (len_seqK (K := K) rfl) rfl (n_len T) (by decide +kernel) (pa_cons (pv 2) pa_nil)) pa_nil))) pa_nil)) pa_nil)))))
      (pss_one (ps_ret (pv 3)))))), ?_⟩
    refine ⟨_, rfl, a, xs, rfl, .inl ha, fun p hp => ?_⟩
    have e1 : Same H (upd H p (.lst xs)) := same_new hp
    have psa : p ≠ sa := fun z => hs.ne (z ▸ hp)
    refine ⟨(by show 0 ≤ sizeLine; decide), fun q hq => ?_⟩
    have e2 := e1.trans (same_new (o := .lst []) hq)
    have qp : q ≠ p := fun z => by rw [z, upd_same] at hq; cases hq
    have hq0 : H q = none := e1.free hq
    have qsa : q ≠ sa := fun z => hs.ne (z ▸ hq0)
    refine ⟨_, rfl, _, _, rfl, .inl (e2.seq ha), _, rfl, by omega, by omega,
      for_upto (lo := 0) (L := xs.length) (by omega) (fun i σ H' => ∃ v4 rest acc, σ = [some (.ref sa), some (.ref a), some (.ref p), some (.ref q), v4] ∧ But sa H H' ∧ Stk H' sa ∧ H' p = some (.lst rest) ∧ H' q = some (.lst acc) ∧ acc.length = i ∧ rest.length + i = xs.length ∧ (∀ y ∈ rest, y ∈ xs) ∧ (∀ y ∈ acc, y ∈ xs)) ⟨_, xs, [], rfl, But.of e2, hs.same e2, by rw [upd_ne (fun z => qp z.symm)]; exact upd_same, upd_same, rfl, rfl, (fun y hy => hy), (fun y hy => by cases hy)⟩ ?_ ?_⟩
    · rintro i σ H' hi ⟨v4, rest, acc, rfl, b, hst, hp1, hq1, hal, hrl, hr1, hr2⟩
      refine ⟨_, rfl, .inl ⟨rfl, _, SqL.of hq1⟩, _, rfl, .inl ⟨rfl, _, SqL.of hp1⟩, _, rfl, _, rfl, _, _, rfl, .inl (SqL.of hp1), sa, (rest.length : Int), rfl, by omega, by omega, hst, fun r x y z r0 r1 => ?_⟩
      have hp2 : upd H' sa (stk x y z) p = some (.lst rest) := by rw [upd_ne psa]; exact hp1
      have hq2 : upd H' sa (stk x y z) q = some (.lst acc) := by rw [upd_ne qsa]; exact hq1
      obtain ⟨v, hv⟩ : ∃ v, rest[r.toNat]? = some v := ⟨rest[r.toNat]'(by omega), List.getElem?_eq_getElem (by omega)⟩
      refine ⟨p, rest, r, r.toNat, v, rfl, rfl, hp2, by omega, by omega, ?_, hv, ?_⟩
      · exact seqIndex_of r0 r1
      refine ⟨q, acc, v, rfl, rfl, by rw [upd_ne qp]; exact hq2, line_lt (by omega), ?_⟩
      refine ⟨_, rest.eraseIdx r.toNat, acc ++ [v], rfl, ?_, ?_, ?_, upd_same, by rw [List.length_append, hal]; rfl, ?_, ?_, ?_⟩
      · exact (b.upd.mut hp).mut hq0
      · exact (stk_upd.but psa.symm).but qsa.symm
      · rw [upd_ne (fun z => qp z.symm)]; exact upd_same
      · rw [List.length_eraseIdx, if_pos (by omega)]; omega
      · exact fun y hy => hr1 y (List.mem_of_mem_eraseIdx hy)
      · intro y hy
        rcases List.mem_append.mp hy with hy | hy
        · exact hr2 y hy
        · rw [List.mem_singleton.mp hy]; exact hr1 _ (List.mem_of_getElem? hv)
    · rintro σ H' ⟨v4, rest, acc, rfl, b, hst, hp1, hq1, hal, hrl, hr1, hr2⟩
      exact ⟨_, rfl, k q H' acc hq0 b hst hq1 hr2 hal⟩
end
end K16
end
section
set_option maxRecDepth 100000
set_option maxHeartbeats 4000000
namespace K16
open PySem PySem.Spec PyProof.Rows L2
/-! ### two answers that are alike -/
def Leaf (v w : V) : Prop := (∃ n, v = .int n ∧ w = .int n) ∨ (∃ s, v = .str s ∧ w = .str s)
def Comp (R : Hp → V → V → Prop) (H : Hp) (v w : V) : Prop := ∃ (a b : Addr) (xs ys : List V), v = .ref a ∧ w = .ref b ∧ ((H a = some (.lst xs) ∧ H b = some (.lst ys)) ∨ (H a = some (.tup xs) ∧ H b = some (.tup ys))) ∧ xs.length = ys.length ∧ ys.length ≤ 1000 ∧ ∀ (i : Nat) (x y : V), xs[i]? = some x → ys[i]? = some y → R H x y
def Mt : Nat → Hp → V → V → Prop
  | 0, _, v, w => Leaf v w
  | k + 1, H, v, w => Leaf v w ∨ Comp (Mt k) H v w
theorem Mt.same : ∀ {k : Nat} {H H' : Hp} {v w : V}, Same H H' → Mt k H v w → Mt k H' v w
  | 0, _, _, _, _, _, h => h
  | k + 1, _, _, _, _, e, .inl h => .inl h
  | k + 1, _, _, _, _, e, .inr ⟨a, b, xs, ys, e1, e2, h, hl, hz, hr⟩ => .inr ⟨a, b, xs, ys, e1, e2, h.imp (fun z => ⟨e _ _ z.1, e _ _ z.2⟩) (fun z => ⟨e _ _ z.1, e _ _ z.2⟩), hl, hz, fun i x y hx hy => Mt.same e (hr i x y hx hy)⟩
def spMt (R : Hp → V → V → Prop) : Sp := fun vs H Q _ => ∃ v w, vs = [v, w] ∧ R H v w ∧ ∀ H', Same H H' → Q (.bl true) H'
section
variable {P : Program} {w : World} {K : PySem.W.Frag} {mg : Str → Option Value} {base : Heap}
theorem k_ii : PySem.W.kitOne K (.type "int") (.type "int") = some true := kit_ty (by decide +kernel)
theorem k_ib : PySem.W.kitOne K (.type "int") (.type "bool") = some false := kit_ty (by decide +kernel)
theorem k_sb : PySem.W.kitOne K (.type "str") (.type "bool") = some false := kit_ty (by decide +kernel)
theorem k_si : PySem.W.kitOne K (.type "str") (.type "int") = some false := kit_ty (by decide +kernel)
theorem k_ss : PySem.W.kitOne K (.type "str") (.type "str") = some true := kit_ty (by decide +kernel)
theorem k_lb : PySem.W.kitOne K (.type "list") (.type "bool") = some false := kit_ty (by decide +kernel)
theorem k_li : PySem.W.kitOne K (.type "list") (.type "int") = some false := kit_ty (by decide +kernel)
theorem k_ls : PySem.W.kitOne K (.type "list") (.type "str") = some false := kit_ty (by decide +kernel)
theorem k_ld : PySem.W.kitOne K (.type "list") (.type "dict") = some false := kit_ty (by decide +kernel)
theorem k_lt : PySem.W.kitOne K (.type "list") (.type "tuple") = some false := kit_ty (by decide +kernel)
theorem k_ll : PySem.W.kitOne K (.type "list") (.type "list") = some true := kit_ty (by decide +kernel)
theorem k_tb : PySem.W.kitOne K (.type "tuple") (.type "bool") = some false := kit_ty (by decide +kernel)
theorem k_ti : PySem.W.kitOne K (.type "tuple") (.type "int") = some false := kit_ty (by decide +kernel)
theorem k_ts : PySem.W.kitOne K (.type "tuple") (.type "str") = some false := kit_ty (by decide +kernel)
theorem k_td : PySem.W.kitOne K (.type "tuple") (.type "dict") = some false := kit_ty (by decide +kernel)
theorem k_tt : PySem.W.kitOne K (.type "tuple") (.type "tuple") = some true := kit_ty (by decide +kernel)
theorem k_tl : PySem.W.kitOne K (.type "tuple") (.type "list") = some false := kit_ty (by decide +kernel)
theorem k_il : PySem.W.kitOne K (.type "int") (.type "list") = some false := kit_ty (by decide +kernel)
theorem k_it : PySem.W.kitOne K (.type "int") (.type "tuple") = some false := kit_ty (by decide +kernel)
theorem k_id : PySem.W.kitOne K (.type "int") (.type "dict") = some false := kit_ty (by decide +kernel)
theorem k_sl : PySem.W.kitOne K (.type "str") (.type "list") = some false := kit_ty (by decide +kernel)
theorem k_st : PySem.W.kitOne K (.type "str") (.type "tuple") = some false := kit_ty (by decide +kernel)
theorem k_sd : PySem.W.kitOne K (.type "str") (.type "dict") = some false := kit_ty (by decide +kernel)
theorem isa {H : Hp} {Q : VK} {x : V} {a T : String} {b : Bool} (ty : TyX K H x (.type a)) (k : PySem.W.kitOne K (.type a) (.type T) = some b) (q : Q (.bl b) H) : rIsi K [x, .ty T] H Q := ⟨x, _, _, _, b, rfl, .ty _, ty, k, q⟩
theorem tx_int {H : Hp} (n : Int) : TyX K H (.int n) (.type "int") := .base (.int n)
theorem tx_str {H : Hp} (n : Str) : TyX K H (.str n) (.type "str") := .base (.str n)
theorem tx_lst {H : Hp} {a : Addr} {xs : List V} (h : H a = some (.lst xs)) : TyX K H (.ref a) (.type "list") := .base (.lst h)
theorem tx_tup {H : Hp} {a : Addr} {xs : List V} (h : H a = some (.tup xs)) : TyX K H (.ref a) (.type "tuple") := .base (.tup h)
theorem mt_gen {k : Nat} {sp0 : Sp} {R : Hp → V → V → Prop} (T : Txt w K mg) (ok__law_matches : Txt w K mg → Ok P w K mg base CX0 k "_law_matches" ["answer", "due"] sp0) (hR : ∀ H v u Q, R H v u → (∀ H', Same H H' → Q (.bl true) H') → sp0 [v, u] H Q E0)
    (hS : ∀ H H' v u, Same H H' → R H v u → R H' v u) : Ok P w K mg base CX0 (k + 1) "_law_matches" ["answer", "due"] (spMt fun H v u => Leaf v u ∨ Comp R H v u) := by
  refine Ok.def0 (f__law_matches T) (fun _ _ _ _ _ _ us hl => match us, hl with | [_, _], _ => rfl) sc__law_matches (fun vs H Q E h => ?_) (fun f cdv A outer s H vs Q E hr h => ?_)
  · obtain ⟨v, u, rfl, _⟩ := h
    rfl
  · obtain ⟨v, u, rfl, h, q⟩ := h
    refine ⟨_, (pss_cons (ps_if (PW.pt (pw_or (pt_cmpR op_isN (pv 1) pe_non (nomark _)) (pw_or1 (pt_cmpR op_isN (pv 0) pe_non (nomark _))))) (pss_one (ps_ret (pe_and (pe_cmpR op_isN (pv 1) pe_non (nomark _)) (pe_one (pe_cmpR op_isN (pv 0) pe_non (nomark _)))))) pss_nil)
      (pss_cons (ps_if (PW.pt (pw_or (pt_val (pe_callB (isiK (K := K) rfl) rfl (n_isinstance T) (by decide +kernel) (pa_cons (pv 1) (pa_cons (pe_bltn (v := .ty "bool") (u := .type "bool") rfl (n_bool T) (by decide +kernel) rfl) pa_nil)))) (pw_or1 (pt_val (pe_callB (isiK (K := K) rfl) rfl (n_isinstance T) (by decide +kernel) (pa_cons (pv 0) (pa_cons (pe_bltn (v := .ty "bool") (u := .type "bool") rfl (n_bool T) (by decide +kernel) rfl) pa_nil))))))) (pss_one (ps_ret (pe_and (pe_callB (isiK (K := K) rfl) rfl (n_isinstance T) (by decide +kernel) (pa_cons (pv 1) (pa_cons (pe_bltn (v := .ty "bool") (u := .type "bool") rfl (n_bool T) (by decide +kernel) rfl) pa_nil))) (pe_and (pe_callB (isiK (K := K) rfl) rfl (n_isinstance T) (by decide +kernel) (pa_cons (pv 0) (pa_cons (pe_bltn (v := .ty "bool") (u := .type "bool") rfl (n_bool T) (by decide +kernel) rfl) pa_nil))) (pe_one (pe_cmpR op_eq (pv 0) (pv 1) (nomark _))))))) pss_nil)
      (pss_cons (ps_if (pt_val (pe_callB (isiK (K := K) rfl) rfl (n_isinstance T) (by decide +kernel) (pa_cons (pv 1) (pa_cons (pe_bltn (v := .ty "int") (u := .type "int") rfl (n_int T) (by decide +kernel) rfl) pa_nil)))) (pss_one (ps_ret (pe_and (pe_callB (isiK (K := K) rfl) rfl (n_isinstance T) (by decide +kernel) (pa_cons (pv 0) (pa_cons (pe_bltn (v := .ty "int") (u := .type "int") rfl (n_int T) (by decide +kernel) rfl) pa_nil))) (pe_one (pe_cmpR op_eq (pv 0) (pv 1) (nomark _)))))) pss_nil)
      (pss_cons (ps_if (pt_val (pe_callB (isiK (K := K) rfl) rfl (n_isinstance T) (by decide +kernel) (pa_cons (pv 1) (pa_cons (pe_bltn (v := .ty "str") (u := .type "str") rfl (n_str T) (by decide +kernel) rfl) pa_nil)))) (pss_one (ps_ret (pe_and (pe_callB (isiK (K := K) rfl) rfl (n_isinstance T) (by decide +kernel) (pa_cons (pv 0) (pa_cons (pe_bltn (v := .ty "str") (u := .type "str") rfl (n_str T) (by decide +kernel) rfl) pa_nil))) (pe_one (pe_cmpR op_eq (pv 0) (pv 1) (nomark _)))))) pss_nil)
      (pss_cons (ps_if (pt_val (pe_callB (isiK (K := K) rfl) rfl (n_isinstance T) (by decide +kernel) (pa_cons (pv 1) (pa_cons (pe_bltn (v := .ty "dict") (u := .type "dict") rfl (n_dict T) (by decide +kernel) rfl) pa_nil)))) (pss_cons (ps_if (PW.pt (pw_or (pt_not (pt_val (pe_callB (isiK (K := K) rfl) rfl (n_isinstance T) (by decide +kernel) (pa_cons (pv 0) (pa_cons (pe_bltn (v := .ty "dict") (u := .type "dict") rfl (n_dict T) (by decide +kernel) rfl) pa_nil))))) (pw_or1 (pt_cmpR op_ne (pe_callB (len_seqK (K := K) rfl) rfl (n_len T) (by decide +kernel) (pa_cons (pv 0) pa_nil)) (pe_callB (len_seqK (K := K) rfl) rfl (n_len T) (by decide +kernel) (pa_cons (pv 1) pa_nil)) (nomark _))))) (pss_one (ps_ret pe_bl)) pss_nil)
      (pss_cons (ps_for PassesOwn.never rfl (pi_listK (K := K) rfl (pe_callTy (list_ofK (K := K) rfl) rfl (n_list T) (by decide +kernel) (pa_cons (pv 1) pa_nil))) (pg_name (i := 2) sc__law_matches.nd rfl (by first | exact Or.inl rfl | exact Or.inr rfl))
        (pss_one (ps_if (PW.pt (pw_or (pt_cmpR op_notIn_seq (pv 2) (pv 0) (by with_unfolding_all rfl)) (pw_or1 (pt_not (pt_val (pe_ok (ok__law_matches T) (hr.mono (by first | decide | omega)) rfl pass0 (pa_cons (pe_ix (ix_seqK (K := K) rfl) (pv 0) (pv 2) (fun _ _ => rfl)) (pa_cons (pe_ix (ix_seqK (K := K) rfl) (pv 1) (pv 2) (fun _ _ => rfl)) pa_nil)))))))) (pss_one (ps_ret pe_bl)) pss_nil)))
      (pss_one (ps_ret pe_bl)))) pss_nil)
      (pss_cons (ps_if (PW.pt (pw_and (pt_val (pe_callB (isiK (K := K) rfl) rfl (n_isinstance T) (by decide +kernel) (pa_cons (pv 1) (pa_cons (pe_bltn (v := .ty "tuple") (u := .type "tuple") rfl (n_tuple T) (by decide +kernel) rfl) pa_nil)))) (pw_and1 (pt_not (pt_val (pe_callB (isiK (K := K) rfl) rfl (n_isinstance T) (by decide +kernel) (pa_cons (pv 0) (pa_cons (pe_bltn (v := .ty "tuple") (u := .type "tuple") rfl (n_tuple T) (by decide +kernel) rfl) pa_nil)))))))) (pss_one (ps_ret pe_bl)) pss_nil)
      (pss_cons (ps_if (PW.pt (pw_and (pt_val (pe_callB (isiK (K := K) rfl) rfl (n_isinstance T) (by decide +kernel) (pa_cons (pv 1) (pa_cons (pe_bltn (v := .ty "list") (u := .type "list") rfl (n_list T) (by decide +kernel) rfl) pa_nil)))) (pw_and1 (pt_not (pt_val (pe_callB (isiK (K := K) rfl) rfl (n_isinstance T) (by decide +kernel) (pa_cons (pv 0) (pa_cons (pe_bltn (v := .ty "list") (u := .type "list") rfl (n_list T) (by decide +kernel) rfl) pa_nil)))))))) (pss_one (ps_ret pe_bl)) pss_nil)
      (pss_cons (ps_if (pt_cmpR op_ne (pe_callB (len_seqK (K := K) rfl) rfl (n_len T) (by decide +kernel) (pa_cons (pv 0) pa_nil)) (pe_callB (len_seqK (K := K) rfl) rfl (n_len T) (by decide +kernel) (pa_cons (pv 1) pa_nil)) (nomark _)) (pss_one (ps_ret pe_bl)) pss_nil)
      (pss_cons (ps_for PassesOwn.never rfl (pi_range1 rfl (n_range T) (pa_cons (pe_callB (len_seqK (K := K) rfl) rfl (n_len T) (by decide +kernel) (pa_cons (pv 1) pa_nil)) pa_nil)) (pg_name (i := 3) sc__law_matches.nd rfl (by first | exact Or.inl rfl | exact Or.inr rfl))
        (pss_one (ps_if (pt_not (pt_val (pe_ok (ok__law_matches T) (hr.mono (by first | decide | omega)) rfl pass0 (pa_cons (pe_ix (ix_seqK (K := K) rfl) (pv 0) (pv 3) (fun _ _ => rfl)) (pa_cons (pe_ix (ix_seqK (K := K) rfl) (pv 1) (pv 3) (fun _ _ => rfl)) pa_nil))))) (pss_one (ps_ret pe_bl)) pss_nil)))
      (pss_one (ps_ret pe_bl))))))))))), ?_⟩
    rcases h with h | h
    · rcases h with ⟨n, rfl, rfl⟩ | ⟨z, rfl, rfl⟩
      · refine ⟨_, rfl, rfl, _, rfl, iteF ⟨_, rfl, rfl, _, rfl, iteF ?_⟩⟩
        refine ⟨_, rfl, ⟨_, _, _, _, _, rfl, .ty _, tx_int _, k_ib, _, rfl, iteF ⟨_, rfl, ⟨_, _, _, _, _, rfl, .ty _, tx_int _, k_ib, _, rfl, iteF ?_⟩⟩⟩⟩
        refine ⟨_, rfl, ⟨_, _, _, _, _, rfl, .ty _, tx_int _, k_ii, _, rfl, iteT ⟨_, rfl, ⟨_, _, _, _, _, rfl, .ty _, tx_int _, k_ii, _, rfl, iteT ⟨_, rfl, _, rfl, rfl, ?_⟩⟩⟩⟩⟩
        rw [decide_eq_true rfl]
        exact q _ (Same.refl _)
      · refine ⟨_, rfl, rfl, _, rfl, iteF ⟨_, rfl, rfl, _, rfl, iteF ?_⟩⟩
        refine ⟨_, rfl, ⟨_, _, _, _, _, rfl, .ty _, tx_str _, k_sb, _, rfl, iteF ⟨_, rfl, ⟨_, _, _, _, _, rfl, .ty _, tx_str _, k_sb, _, rfl, iteF ?_⟩⟩⟩⟩
        refine ⟨_, rfl, ⟨_, _, _, _, _, rfl, .ty _, tx_str _, k_si, _, rfl, iteF ?_⟩⟩
        refine ⟨_, rfl, ⟨_, _, _, _, _, rfl, .ty _, tx_str _, k_ss, _, rfl, iteT ⟨_, rfl, ⟨_, _, _, _, _, rfl, .ty _, tx_str _, k_ss, _, rfl, iteT ⟨_, rfl, _, rfl, rfl, ?_⟩⟩⟩⟩⟩
        rw [decide_eq_true rfl]
        exact q _ (Same.refl _)
    · obtain ⟨a, b, xs, ys, rfl, rfl, h, hl, hz, hr⟩ := h
      refine ⟨_, rfl, rfl, _, rfl, iteF ⟨_, rfl, rfl, _, rfl, iteF ?_⟩⟩
      rcases h with ⟨ha, hb⟩ | ⟨ha, hb⟩
      · refine ⟨_, rfl, ⟨_, _, _, _, _, rfl, .ty _, tx_lst hb, k_lb, _, rfl, iteF ⟨_, rfl, ⟨_, _, _, _, _, rfl, .ty _, tx_lst ha, k_lb, _, rfl, iteF ?_⟩⟩⟩⟩
        refine ⟨_, rfl, ⟨_, _, _, _, _, rfl, .ty _, tx_lst hb, k_li, _, rfl, iteF ?_⟩⟩
        refine ⟨_, rfl, ⟨_, _, _, _, _, rfl, .ty _, tx_lst hb, k_ls, _, rfl, iteF ?_⟩⟩
        refine ⟨_, rfl, ⟨_, _, _, _, _, rfl, .ty _, tx_lst hb, k_ld, _, rfl, iteF ?_⟩⟩
        refine ⟨_, rfl, ⟨_, _, _, _, _, rfl, .ty _, tx_lst hb, k_lt, _, rfl, iteF ?_⟩⟩
        refine ⟨_, rfl, ⟨_, _, _, _, _, rfl, .ty _, tx_lst hb, k_ll, _, rfl, iteT ⟨_, rfl, ⟨_, _, _, _, _, rfl, .ty _, tx_lst ha, k_ll, _, rfl, iteF ?_⟩⟩⟩⟩
        refine ⟨_, rfl, _, _, rfl, .inl (SqL.of ha), _, rfl, _, _, rfl, .inl (SqL.of hb), rfl, _, rfl, ?_⟩
        rw [hl, decide_eq_true rfl]
        refine iteF ⟨_, rfl, _, _, rfl, .inl (SqL.of hb), _, rfl, by omega, by omega, for_upto (lo := 0) (L := ys.length) (by omega) (fun i σ H' => ∃ v3, σ = [some (.ref a), some (.ref b), none, v3] ∧ Same H H') ⟨none, rfl, Same.refl H⟩ ?_ ?_⟩
        · rintro i σ H' hi ⟨v3, rfl, e⟩
          obtain ⟨x, hx⟩ : ∃ x, xs[i]? = some x := ⟨xs[i]'(by omega), List.getElem?_eq_getElem _⟩
          obtain ⟨y, hy⟩ : ∃ y, ys[i]? = some y := ⟨ys[i], List.getElem?_eq_getElem _⟩
          refine ⟨_, rfl, _, rfl, .inl ⟨a, _, _, _, rfl, rfl, e.seq (SqL.of ha), at_of (by omega) hx, _, rfl, _, rfl, .inl ⟨b, _, _, _, rfl, rfl, e.seq (SqL.of hb), at_of (by omega) hy, ?_⟩⟩⟩
          exact hR _ _ _ _ (hS _ _ _ _ e (hr i x y hx hy)) fun H2 s2 => ⟨_, rfl, _, rfl, e.trans s2⟩
        · rintro σ H' ⟨v3, rfl, e⟩
          exact q _ e
      · refine ⟨_, rfl, ⟨_, _, _, _, _, rfl, .ty _, tx_tup hb, k_tb, _, rfl, iteF ⟨_, rfl, ⟨_, _, _, _, _, rfl, .ty _, tx_tup ha, k_tb, _, rfl, iteF ?_⟩⟩⟩⟩
        refine ⟨_, rfl, ⟨_, _, _, _, _, rfl, .ty _, tx_tup hb, k_ti, _, rfl, iteF ?_⟩⟩
        refine ⟨_, rfl, ⟨_, _, _, _, _, rfl, .ty _, tx_tup hb, k_ts, _, rfl, iteF ?_⟩⟩
        refine ⟨_, rfl, ⟨_, _, _, _, _, rfl, .ty _, tx_tup hb, k_td, _, rfl, iteF ?_⟩⟩
        refine ⟨_, rfl, ⟨_, _, _, _, _, rfl, .ty _, tx_tup hb, k_tt, _, rfl, iteT ⟨_, rfl, ⟨_, _, _, _, _, rfl, .ty _, tx_tup ha, k_tt, _, rfl, iteF ?_⟩⟩⟩⟩
        refine ⟨_, rfl, ⟨_, _, _, _, _, rfl, .ty _, tx_tup hb, k_tl, _, rfl, iteF ?_⟩⟩
        refine ⟨_, rfl, _, _, rfl, .inr (SqT.of ha), _, rfl, _, _, rfl, .inr (SqT.of hb), rfl, _, rfl, ?_⟩
        rw [hl, decide_eq_true rfl]
        refine iteF ⟨_, rfl, _, _, rfl, .inr (SqT.of hb), _, rfl, by omega, by omega, for_upto (lo := 0) (L := ys.length) (by omega) (fun i σ H' => ∃ v3, σ = [some (.ref a), some (.ref b), none, v3] ∧ Same H H') ⟨none, rfl, Same.refl H⟩ ?_ ?_⟩
        · rintro i σ H' hi ⟨v3, rfl, e⟩
          obtain ⟨x, hx⟩ : ∃ x, xs[i]? = some x := ⟨xs[i]'(by omega), List.getElem?_eq_getElem _⟩
          obtain ⟨y, hy⟩ : ∃ y, ys[i]? = some y := ⟨ys[i], List.getElem?_eq_getElem _⟩
          refine ⟨_, rfl, _, rfl, .inr (.inl ⟨a, _, _, _, rfl, rfl, e.tup (SqT.of ha), at_of (by omega) hx, _, rfl, _, rfl, .inr (.inl ⟨b, _, _, _, rfl, rfl, e.tup (SqT.of hb), at_of (by omega) hy, ?_⟩)⟩)⟩
          exact hR _ _ _ _ (hS _ _ _ _ e (hr i x y hx hy)) fun H2 s2 => ⟨_, rfl, _, rfl, e.trans s2⟩
        · rintro σ H' ⟨v3, rfl, e⟩
          exact q _ e
theorem ok_mt0 (T : Txt w K mg) : Ok P w K mg base CX0 1 "_law_matches" ["answer", "due"] (spMt (Mt 0)) :=
  (mt_gen (k := 0) (sp0 := fun _ _ _ _ => False) (R := fun _ _ _ => False) T (fun T => Ok.never (f__law_matches T) (fun _ _ _ _ _ _ us hl => match us, hl with | [_, _], _ => rfl)) (fun _ _ _ _ h _ => h.elim) (fun _ _ _ _ _ h => h)).imp fun vs H Q E ⟨v, u, e, h, q⟩ => ⟨v, u, e, .inl h, q⟩
theorem ok_mt1 (T : Txt w K mg) : Ok P w K mg base CX0 2 "_law_matches" ["answer", "due"] (spMt (Mt 1)) :=
  mt_gen (k := 1) T (fun T => ok_mt0 T) (fun _ v u _ h q => ⟨v, u, rfl, h, q⟩) (fun _ _ _ _ e h => h.same (k := 0) e)
theorem ok_mt2 (T : Txt w K mg) : Ok P w K mg base CX0 3 "_law_matches" ["answer", "due"] (spMt (Mt 2)) :=
  mt_gen (k := 2) T (fun T => ok_mt1 T) (fun _ v u _ h q => ⟨v, u, rfl, h, q⟩) (fun _ _ _ _ e h => Mt.same (k := 1) e h)
end
end K16
end
section
set_option maxRecDepth 100000
set_option maxHeartbeats 4000000
namespace K16
open PySem PySem.Spec PyProof.Rows L2
def Leaf1 (v : V) : Prop := (∃ n, v = .int n) ∨ (∃ s, v = .str s)
def spSpoil (sp0 : Sp) : Sp := fun vs H Q _ => ∃ v, vs = [v] ∧ ((Leaf1 v ∧ ∀ H', Same H H' → Q .non H') ∨
  (∃ (t : Addr) (xs : List V) (I : Nat → Hp → Prop), v = .ref t ∧ H t = some (.tup xs) ∧ xs.length ≤ 1000 ∧ (∀ H', Same H H' → I 0 H') ∧ (∀ i H', I i H' → H' t = some (.tup xs)) ∧
    (∀ i x H' Q', xs[i]? = some x → I i H' → (∀ H'', I (i + 1) H'' → Q' .non H'') → sp0 [x] H' Q' E0) ∧ ∀ H', I xs.length H' → Q .non H') ∨
  (∃ (t : Addr) (xs : List V) (I : Nat → Hp → Prop), v = .ref t ∧ H t = some (.lst xs) ∧ xs.length ≤ 1000 ∧ (∀ H', Same H H' → I 0 H') ∧ (∀ i H', I i H' → H' t = some (.lst xs)) ∧
    (∀ i x H' Q', xs[i]? = some x → I i H' → (∀ H'', I (i + 1) H'' → Q' .non H'') → sp0 [x] H' Q' E0) ∧ ∀ H', I xs.length H' → Q .non (upd H' t (.lst (xs ++ [V.int 7])))))
section
variable {P : Program} {w : World} {K : PySem.W.Frag} {mg : Str → Option Value} {base : Heap}
theorem spoil_gen {k : Nat} {sp0 : Sp} (T : Txt w K mg) (ok__law_e_spoil : Txt w K mg → Ok P w K mg base CX0 k "_law_e_spoil" ["thing"] sp0) : Ok P w K mg base CX0 (k + 1) "_law_e_spoil" ["thing"] (spSpoil sp0) := by
  refine Ok.def0 (f__law_e_spoil T) (fun _ _ _ _ _ _ us hl => match us, hl with | [_], _ => rfl) sc__law_e_spoil (fun vs H Q E h => ?_) (fun f cdv A outer s H vs Q E hr h => ?_)
  · obtain ⟨v, rfl, _⟩ := h
    rfl
  · obtain ⟨v, rfl, h⟩ := h
    refine ⟨_, (pss_cons (ps_if (pt_val (pe_callB (isiTK (K := K) rfl) rfl (n_isinstance T) (by decide +kernel) (pa_cons (pv 0) (pa_cons (pe_tup (pa_cons (pe_bltn (v := .ty "list") (u := .type "list") rfl (n_list T) (by decide +kernel) rfl) (pa_cons (pe_bltn (v := .ty "tuple") (u := .type "tuple") rfl (n_tuple T) (by decide +kernel) rfl) pa_nil))) pa_nil)))) (pss_one (ps_for PassesOwn.never rfl (pi_or (pi_listK (K := K) rfl (pv 0)) (pi_tupK (K := K) rfl (pv 0))) (pg_name (i := 1) sc__law_e_spoil.nd rfl (by first | exact Or.inl rfl | exact Or.inr rfl))
        (pss_one (ps_expr (pe_ok (ok__law_e_spoil T) (hr.mono (by first | decide | omega)) rfl pass0 (pa_cons (pv 1) pa_nil)))))) pss_nil)
      (pss_cons (ps_if (pt_val (pe_callB (isiK (K := K) rfl) rfl (n_isinstance T) (by decide +kernel) (pa_cons (pv 0) (pa_cons (pe_bltn (v := .ty "list") (u := .type "list") rfl (n_list T) (by decide +kernel) rfl) pa_nil)))) (pss_one (ps_expr (pe_bm PySem.F.plainAttrs_list PySem.F.slot_list_append PySem.F.type_list_append mt_append (pv 0) (pa_cons pe_int pa_nil)))) pss_nil)
      (pss_one (ps_if (pt_val (pe_callB (isiK (K := K) rfl) rfl (n_isinstance T) (by decide +kernel) (pa_cons (pv 0) (pa_cons (pe_bltn (v := .ty "dict") (u := .type "dict") rfl (n_dict T) (by decide +kernel) rfl) pa_nil)))) (pss_one (ps_asg pe_int (pg_sub (pv 0) (pe_un un_neg pe_int) set_list))) pss_nil)))), ?_⟩
    rcases h with ⟨h, q⟩ | ⟨t, xs, I, rfl, ht, hz, i0, i1, i2, q⟩ | ⟨t, xs, I, rfl, ht, hz, i0, i1, i2, q⟩
    · refine ⟨_, rfl, (by show 2 ≤ sizeLine; decide), fun p hp => ?_⟩
      have e1 : Same H (upd H p (.tup [V.ty "list", V.ty "tuple"])) := same_new hp
      rcases h with ⟨n, rfl⟩ | ⟨z, rfl⟩
      · refine ⟨_, p, _, _, _, false, rfl, upd_same, .cons (.ty _) (.cons (.ty _) .nil), .base (.int _), kitAny_cons k_il (fun _ => kitAny_cons k_it (fun _ => kitAny_nil) (fun z => by cases z)) (fun z => by cases z), _, rfl, iteF ?_⟩
        refine ⟨_, rfl, ⟨_, _, _, _, _, rfl, .ty _, tx_int _, k_il, _, rfl, iteF ?_⟩⟩
        exact ⟨_, rfl, ⟨_, _, _, _, _, rfl, .ty _, tx_int _, k_id, _, rfl, iteF (q _ e1)⟩⟩
      · refine ⟨_, p, _, _, _, false, rfl, upd_same, .cons (.ty _) (.cons (.ty _) .nil), .base (.str _), kitAny_cons k_sl (fun _ => kitAny_cons k_st (fun _ => kitAny_nil) (fun z => by cases z)) (fun z => by cases z), _, rfl, iteF ?_⟩
        refine ⟨_, rfl, ⟨_, _, _, _, _, rfl, .ty _, tx_str _, k_sl, _, rfl, iteF ?_⟩⟩
        exact ⟨_, rfl, ⟨_, _, _, _, _, rfl, .ty _, tx_str _, k_sd, _, rfl, iteF (q _ e1)⟩⟩
    · refine ⟨_, rfl, (by show 2 ≤ sizeLine; decide), fun p hp => ?_⟩
      have e1 : Same H (upd H p (.tup [V.ty "list", V.ty "tuple"])) := same_new hp
      refine ⟨_, p, _, _, _, true, rfl, upd_same, .cons (.ty _) (.cons (.ty _) .nil), .base (.tup (e1 _ _ ht)), kitAny_cons k_tl (fun _ => kitAny_cons k_tt (fun z => by cases z) (fun _ => rfl)) (fun z => by cases z), _, rfl, iteT ?_⟩
      refine .inr ⟨_, rfl, t, rfl, ⟨_, SqT.of (e1 _ _ ht)⟩, for_tup (K := K) (xs := xs) (fun i σ H' => ∃ v1, σ = [some (.ref t), v1] ∧ I i H') ⟨none, rfl, i0 _ e1⟩ (fun i σ H' _ ⟨_, _, h⟩ => SqT.of (i1 i H' h)) ?_ ?_⟩
      · rintro i x σ H' hx ⟨v1, rfl, h⟩
        exact ⟨_, rfl, i2 i x H' _ hx h fun H'' h'' => ⟨_, rfl, h''⟩⟩
      · rintro σ H' ⟨v1, rfl, h⟩
        have ht' := i1 _ _ h
        refine ⟨_, rfl, ⟨_, _, _, _, _, rfl, .ty _, tx_tup ht', k_tl, _, rfl, iteF ?_⟩⟩
        exact ⟨_, rfl, ⟨_, _, _, _, _, rfl, .ty _, tx_tup ht', k_td, _, rfl, iteF (q _ h)⟩⟩
    · refine ⟨_, rfl, (by show 2 ≤ sizeLine; decide), fun p hp => ?_⟩
      have e1 : Same H (upd H p (.tup [V.ty "list", V.ty "tuple"])) := same_new hp
      refine ⟨_, p, _, _, _, true, rfl, upd_same, .cons (.ty _) (.cons (.ty _) .nil), .base (.lst (e1 _ _ ht)), kitAny_cons k_ll (fun z => by cases z) (fun _ => rfl), _, rfl, iteT ?_⟩
      refine .inl ⟨_, rfl, t, rfl, ⟨_, SqL.of (e1 _ _ ht)⟩, for_list (K := K) (xs := xs) (fun i σ H' => ∃ v1, σ = [some (.ref t), v1] ∧ I i H') ⟨none, rfl, i0 _ e1⟩ (fun i σ H' _ ⟨_, _, h⟩ => SqL.of (i1 i H' h)) ?_ ?_⟩
      · rintro i x σ H' hx ⟨v1, rfl, h⟩
        exact ⟨_, rfl, i2 i x H' _ hx h fun H'' h'' => ⟨_, rfl, h''⟩⟩
      · rintro σ H' ⟨v1, rfl, h⟩
        have ht' := i1 _ _ h
        refine ⟨_, rfl, ⟨_, _, _, _, _, rfl, .ty _, tx_lst ht', k_ll, _, rfl, iteT ?_⟩⟩
        refine ⟨_, rfl, .inl ⟨rfl, _, SqL.of ht'⟩, t, _, _, rfl, rfl, ht', line_lt (by omega), ?_⟩
        exact ⟨_, rfl, ⟨_, _, _, _, _, rfl, .ty _, tx_lst upd_same, k_ld, _, rfl, iteF (q _ h)⟩⟩
/-- at the lowest level, leaves alone -/
def spSp0 : Sp := fun vs H Q _ => ∃ v, vs = [v] ∧ Leaf1 v ∧ ∀ H', Same H H' → Q .non H'
theorem ok_sp0 (T : Txt w K mg) : Ok P w K mg base CX0 1 "_law_e_spoil" ["thing"] spSp0 :=
  (spoil_gen (k := 0) (sp0 := fun _ _ _ _ => False) T fun T => Ok.never (f__law_e_spoil T) (fun _ _ _ _ _ _ us hl => match us, hl with | [_], _ => rfl)).imp fun vs H Q E ⟨v, e, h, q⟩ => ⟨v, e, .inl ⟨h, q⟩⟩
/-- a list of ints at l -/
def spSp1 : Sp := fun vs H Q _ => ∃ v, vs = [v] ∧ ((Leaf1 v ∧ ∀ H', Same H H' → Q .non H') ∨ (∃ (l : Addr) (ns : List Int), v = .ref l ∧ H l = some (.lst (ns.map V.int)) ∧ ns.length ≤ 1000 ∧ ∀ H', But l H H' → Q .non H'))
theorem ok_sp1 (T : Txt w K mg) : Ok P w K mg base CX0 2 "_law_e_spoil" ["thing"] spSp1 :=
  (spoil_gen (k := 1) T ok_sp0).imp fun vs H Q E ⟨v, e, h⟩ => by
    rcases h with ⟨h, q⟩ | ⟨l, ns, e2, hl, hz, q⟩
    · exact ⟨v, e, .inl ⟨h, q⟩⟩
    · refine ⟨v, e, .inr (.inr ⟨l, _, fun _ H' => Same H H', e2, hl, by rw [ints_len]; exact hz, fun _ h => h, fun _ H' h => h _ _ hl, fun i x H' Q' hx h hq => ?_, fun H' h => q _ (But.of h).upd⟩)⟩
      obtain ⟨n, _, rfl⟩ := ints_get hx
      exact ⟨_, rfl, .inl ⟨n, rfl⟩, fun H'' s => hq _ (h.trans s)⟩
/-- a list of ints at l, or a pair of a name and an int, or of a name and a list at l -/
def spSp2 : Sp := fun vs H Q _ => ∃ v, vs = [v] ∧ ((∃ (l : Addr) (ns : List Int), v = .ref l ∧ H l = some (.lst (ns.map V.int)) ∧ ns.length ≤ 1000 ∧ ∀ H', But l H H' → Q .non H') ∨
  (∃ (t : Addr) (z : Str) (n : Int), v = .ref t ∧ H t = some (.tup [.str z, .int n]) ∧ ∀ H', Same H H' → Q .non H') ∨
  (∃ (t l : Addr) (z : Str) (ns : List Int), v = .ref t ∧ H t = some (.tup [.str z, .ref l]) ∧ H l = some (.lst (ns.map V.int)) ∧ ns.length ≤ 1000 ∧ t ≠ l ∧ ∀ H', But l H H' → Q .non H'))
theorem ok_sp2 (T : Txt w K mg) : Ok P w K mg base CX0 3 "_law_e_spoil" ["thing"] spSp2 :=
  (spoil_gen (k := 2) T ok_sp1).imp fun vs H Q E ⟨v, e, h⟩ => by
    rcases h with ⟨l, ns, e2, hl, hz, q⟩ | ⟨t, z, n, e2, ht, q⟩ | ⟨t, l, z, ns, e2, ht, hl, hz, ne, q⟩
    · refine ⟨v, e, .inr (.inr ⟨l, _, fun _ H' => Same H H', e2, hl, by rw [ints_len]; exact hz, fun _ h => h, fun _ H' h => h _ _ hl, fun i x H' Q' hx h hq => ?_, fun H' h => q _ (But.of h).upd⟩)⟩
      obtain ⟨n, _, rfl⟩ := ints_get hx
      exact ⟨_, rfl, .inl ⟨.inl ⟨n, rfl⟩, fun H'' s => hq _ (h.trans s)⟩⟩
    · refine ⟨v, e, .inr (.inl ⟨t, _, fun _ H' => Same H H', e2, ht, (by show 2 ≤ 1000; decide), fun _ h => h, fun _ H' h => h _ _ ht, fun i x H' Q' hx h hq => ?_, fun H' h => q _ h⟩)⟩
      refine ⟨x, rfl, .inl ⟨?_, fun H'' s => hq _ (h.trans s)⟩⟩
      rcases i with _ | _ | i
      · cases hx; exact .inr ⟨z, rfl⟩
      · cases hx; exact .inl ⟨n, rfl⟩
      · cases hx
    · refine ⟨v, e, .inr (.inl ⟨t, _, fun i H' => (i = 2 → But l H H') ∧ (i < 2 → Same H H') ∧ H' t = some (.tup [.str z, .ref l]), e2, ht, (by show 2 ≤ 1000; decide), fun H' h => ⟨(fun z => by omega), fun _ => h, h _ _ ht⟩, fun _ H' h => h.2.2, fun i x H' Q' hx h hq => ?_, fun H' h => q _ (h.1 rfl)⟩)⟩
      rcases i with _ | _ | i
      · cases hx
        exact ⟨_, rfl, .inl ⟨.inr ⟨z, rfl⟩, fun H'' s => hq _ ⟨(fun z => by omega), fun _ => (h.2.1 (by decide)).trans s, s _ _ h.2.2⟩⟩⟩
      · cases hx
        have s := h.2.1 (by decide)
        exact ⟨_, rfl, .inr ⟨l, ns, rfl, s _ _ hl, hz, fun H'' b => hq _ ⟨fun _ => (But.of s).trans b, (fun z => by omega), b _ _ h.2.2 ne⟩⟩⟩
      · cases hx
end
end K16
end
section
set_option maxRecDepth 100000
set_option maxHeartbeats 4000000
namespace K16
open PySem PySem.Spec PyProof.Rows L2
/-! ### a due answer -/
inductive Due where
  | nums (ns : List Int)
  | nev (d : Int)
  | calls (ns : List Int)
def Due.small : Due → Prop
  | .nums ns => ns.length ≤ 1000
  | .nev _ => True
  | .calls ns => ns.length ≤ 1000
def DueAt (H : Hp) (v : V) : Due → Prop
  | .nums ns => ∃ l, v = .ref l ∧ H l = some (.lst (ns.map V.int))
  | .nev d => NevR H v d
  | .calls ns => ∃ t l, v = .ref t ∧ H t = some (.tup [.str "calls", .ref l]) ∧ H l = some (.lst (ns.map V.int)) ∧ t ≠ l
def NewAt (H0 H : Hp) (v : V) : Due → Prop
  | .nums ns => NewL H0 H v ns
  | .nev d => NevR H v d
  | .calls ns => CallsR H0 H v ns
theorem DueAt.same {H H' : Hp} {v : V} {d : Due} (e : Same H H') (h : DueAt H v d) : DueAt H' v d := by
  cases d with
  | nums ns => obtain ⟨l, rfl, h⟩ := h; exact ⟨l, rfl, e _ _ h⟩
  | nev d => obtain ⟨t, rfl, h⟩ := h; exact ⟨t, rfl, e _ _ h⟩
  | calls ns => obtain ⟨t, l, rfl, h1, h2, n⟩ := h; exact ⟨t, l, rfl, e _ _ h1, e _ _ h2, n⟩
theorem NewAt.due {H0 H : Hp} {v : V} {d : Due} (h : NewAt H0 H v d) : DueAt H v d := by
  cases d with
  | nums ns => obtain ⟨l, rfl, _, h⟩ := h; exact ⟨l, rfl, h⟩
  | nev d => exact h
  | calls ns => obtain ⟨t, l, rfl, h1, h2, _, _, n⟩ := h; exact ⟨t, l, rfl, h1, h2, n⟩
theorem mt_ints {H : Hp} {a b : Addr} {ns : List Int} (hz : ns.length ≤ 1000) (ha : H a = some (.lst (ns.map V.int))) (hb : H b = some (.lst (ns.map V.int))) : Mt 1 H (.ref a) (.ref b) := by
  refine .inr ⟨a, b, _, _, rfl, rfl, .inl ⟨ha, hb⟩, rfl, by rw [ints_len]; exact hz, fun i x y hx hy => ?_⟩
  obtain ⟨n, _, rfl⟩ := ints_get hx
  rw [hx] at hy
  cases hy
  exact .inl ⟨n, rfl, rfl⟩
theorem DueAt.mt {H : Hp} {v u : V} {d : Due} (hz : d.small) (h : DueAt H v d) (h' : DueAt H u d) : Mt 2 H v u := by
  cases d with
  | nums ns =>
    obtain ⟨l, rfl, h⟩ := h
    obtain ⟨l', rfl, h'⟩ := h'
    refine .inr ⟨l, l', _, _, rfl, rfl, .inl ⟨h, h'⟩, rfl, by rw [ints_len]; exact hz, fun i x y hx hy => ?_⟩
    obtain ⟨n, _, rfl⟩ := ints_get hx
    rw [hx] at hy
    cases hy
    exact .inl (.inl ⟨n, rfl, rfl⟩)
  | nev d =>
    obtain ⟨t, rfl, h⟩ := h
    obtain ⟨t', rfl, h'⟩ := h'
    refine .inr ⟨t, t', _, _, rfl, rfl, .inr ⟨h, h'⟩, rfl, (by show 2 ≤ 1000; decide), fun i x y hx hy => ?_⟩
    rcases i with _ | _ | i
    · cases hx; cases hy; exact .inl (.inr ⟨_, rfl, rfl⟩)
    · cases hx; cases hy; exact .inl (.inl ⟨_, rfl, rfl⟩)
    · cases hx
  | calls ns =>
    obtain ⟨t, l, rfl, h1, h2, _⟩ := h
    obtain ⟨t', l', rfl, h1', h2', _⟩ := h'
    refine .inr ⟨t, t', _, _, rfl, rfl, .inr ⟨h1, h1'⟩, rfl, (by show 2 ≤ 1000; decide), fun i x y hx hy => ?_⟩
    rcases i with _ | _ | i
    · cases hx; cases hy; exact .inl (.inr ⟨_, rfl, rfl⟩)
    · cases hx; cases hy; exact mt_ints hz h2 h2'
    · cases hx
theorem NewAt.spoil {H0 H1 H2 : Hp} {v : V} {d : Due} {Q : Hp → Prop} (hz : d.small) (e : Same H0 H1) (e2 : Same H1 H2) (h : NewAt H0 H1 v d) (q : ∀ H', Same H0 H' → Q H') :
    (∃ (l : Addr) (ns : List Int), v = .ref l ∧ H2 l = some (.lst (ns.map V.int)) ∧ ns.length ≤ 1000 ∧ ∀ H', But l H2 H' → Q H') ∨
  (∃ (t : Addr) (z : Str) (n : Int), v = .ref t ∧ H2 t = some (.tup [.str z, .int n]) ∧ ∀ H', Same H2 H' → Q H') ∨
  (∃ (t l : Addr) (z : Str) (ns : List Int), v = .ref t ∧ H2 t = some (.tup [.str z, .ref l]) ∧ H2 l = some (.lst (ns.map V.int)) ∧ ns.length ≤ 1000 ∧ t ≠ l ∧ ∀ H', But l H2 H' → Q H') := by
  have key : ∀ l, H0 l = none → ∀ H', But l H2 H' → Same H0 H' := fun l hl H' b a o ha => b a o (e2 _ _ (e _ _ ha)) (ne_of_none ha hl)
  cases d with
  | nums ns =>
    obtain ⟨l, rfl, hl, h⟩ := h
    exact .inl ⟨l, ns, rfl, e2 _ _ h, hz, fun H' b => q _ (key l hl H' b)⟩
  | nev d =>
    obtain ⟨t, rfl, h⟩ := h
    exact .inr (.inl ⟨t, _, _, rfl, e2 _ _ h, fun H' s => q _ ((e.trans e2).trans s)⟩)
  | calls ns =>
    obtain ⟨t, l, rfl, h1, h2, hl, _, n⟩ := h
    exact .inr (.inr ⟨t, l, _, ns, rfl, e2 _ _ h1, e2 _ _ h2, hz, n, fun H' b => q _ (key l hl H' b)⟩)
/-- what _law_e_twice makes of a lambda that answers alike twice -/
def TTw : (XK → Hp → VK → Prop) → (Hp → Prop) → V → Hp → VK → Prop := fun tl _ v2 H Q => ∃ D : Due, D.small ∧ DueAt H v2 D ∧ (∀ H1 Q', Same H H1 → (∀ v H2, Same H1 H2 → NewAt H1 H2 v D → Q' v H2) → tl E0 H1 Q') ∧ ∀ H', Same H H' → Q (.bl true) H'
theorem twice_gives {X : Cx} (T : Txt X.w X.K X.mg) (hrX : Room 7 X.A) {g : Addr} {cdg : Value} {q : Str} : LamX.Gives2 X ["call", "due", "told"] "_law_e_twice" (defScope s__law_e_twice) g cdg (defBody s__law_e_twice) "call" q TTw := by
  intro f c' s H Q v2 tl hc hco h
  obtain ⟨D, hz, hd, hl, k⟩ := h
  have hr := hrX.deeper (envOfC "_law_e_twice" (defScope s__law_e_twice) s.heap.objs.size g cdg)
  have hcl := fun p1 p2 => hc (fun _ _ _ _ => False) [] (fun _ _ => False) E0 p1 p2 LamX.takes0 (fun _ _ _ _ z => z)
  have ok__law_matches := fun (T : Txt X.w X.K X.mg) => ok_mt2 (P := X.prog) (base := X.base) T
  have ok__law_e_spoil := fun (T : Txt X.w X.K X.mg) => ok_sp2 (P := X.prog) (base := X.base) T
  refine ⟨_, (pss_cons (ps_set (i := 2) sc__law_e_twice.nd rfl (by first | exact Or.inl rfl | exact Or.inr rfl) (hcl _ _))
      (pss_cons (ps_if (pt_not (pt_val (pe_ok (ok__law_matches T) (hr.mono (by first | decide | omega)) rfl pass0 (pa_cons (pv 2) (pa_cons (pv 1) pa_nil))))) (pss_one (ps_ret pe_bl)) pss_nil)
      (pss_cons (ps_expr (pe_ok (ok__law_e_spoil T) (hr.mono (by first | decide | omega)) rfl pass0 (pa_cons (pv 2) pa_nil)))
      (pss_one (ps_ret (pe_ok (ok__law_matches T) (hr.mono (by first | decide | omega)) rfl pass0 (pa_cons (hcl _ _) (pa_cons (pv 1) pa_nil)))))))), ?_⟩
  refine ⟨rfl, hco, hl _ _ (Same.refl H) fun v H1 s1 hn => ?_⟩
  have hd1 : DueAt H1 v2 D := hd.same s1
  refine ⟨_, rfl, _, rfl, v, v2, rfl, hn.due.mt hz hd1, fun H2 s2 => ⟨_, rfl, iteF ?_⟩⟩
  refine ⟨_, rfl, v, rfl, hn.spoil hz s1 s2 fun H3 s3 => ?_⟩
  refine ⟨rfl, s3 _ _ hco, hl _ _ s3 fun v' H4 s4 hn' => ?_⟩
  exact ⟨_, rfl, v', v2, rfl, hn'.due.mt hz (hd.same (s3.trans s4)), fun H5 s5 => k _ ((s3.trans s4).trans s5)⟩
end K16
end
section
set_option maxRecDepth 100000
set_option maxHeartbeats 4000000
namespace K16
open PySem PySem.Spec PyProof.Rows L2
theorem new2 {H : Hp} {a : Addr} (o : HO) (h : H a = none) : Same H (upd H a o) ∧ upd H a o a = some o := ⟨same_new h, upd_same⟩
theorem pe_noway {X : Cx} {e : Expr} : PE X e (fun _ _ _ => False) := ⟨fun _ _ _ _ _ _ h => h.elim⟩
section
variable {P : Program} {w : World} {K : PySem.W.Frag} {mg : Str → Option Value} {base : Heap}
def spErr_TooMany (K : PySem.W.Frag) : SpE := fun a cls d vs H Q _ => ∃ (d' : Addr) (v : V), vs = [.ref a] ∧ d = some d' ∧ cls = .ref (cTM K) ∧ H d' = some (.xd [("what", v)]) ∧ ∀ t H', Same H H' → H' t = some (.tup [.str "TooMany", v]) → Q (.ref t) H'
theorem body_TooMany (T : Txt w K mg) {A : Around} {outer : List Env} {s : Shared} {H : Hp} {Q : VK} {p : Addr × Obj} {d : Addr} {v : V} {f : Addr} {cdv : Value} (hz : Zc (.ref (cTM K)) (some d) p.2) (hf : ∃ vs, p.2.data = .fields vs)
    (hd : H d = some (.xd [("what", v)])) (q : ∀ t H', Same H H' → H' t = some (.tup [.str "TooMany", v]) → Q (.ref t) H') :
    ∃ t, PSs (L2H.cxH CX0 P w K mg base ["error", "found"] "_law_e_error" (defScope s__law_e_error) f cdv A outer s H E0 p) (defBody s__law_e_error) t ∧ t { nx := fun _ H' => Q .non H', rt := Q } (L2.start ["error", "found"] [.ref p.1]) H := by
  refine ⟨_, (pss_cons (ps_set (i := 1) sc__law_e_error.nd rfl (by first | exact Or.inl rfl | exact Or.inr rfl) (pe_ifExp (pt_val (pe_callB (call_isD (p := p) (D := cTM K) (d := d) List.mem_cons_self (xt_TooMany T).exc hz hf) rfl (n_isinstance T) (by decide +kernel) (pa_cons (pv 0) (pa_cons (pe_glob (v := .ref _) rfl (g_TooMany T) rfl) pa_nil)))) (pe_lst (pa_cons (pe_tup (pa_cons pe_str (pa_cons (pe_xfG (p := p) (C := cTM K) List.mem_cons_self (xt_TooMany T).xf (xn_TooMany_what T) hz hf (pv 0)) pa_nil))) pa_nil)) (pe_lst pa_nil)))
      (pss_cons (ps_set (i := 1) sc__law_e_error.nd rfl (by first | exact Or.inl rfl | exact Or.inr rfl) (pe_op op_cat (pv 1) (pe_ifExp (pt_val (pe_callB (call_isD (p := p) (D := cTM K) (d := d) List.mem_cons_self (xt_TooMany T).exc hz hf) rfl (n_isinstance T) (by decide +kernel) (pa_cons (pv 0) (pa_cons (pe_glob (v := .ref _) rfl (g_BadSetting T) rfl) pa_nil)))) (pe_lst (pa_cons (pe_tup (pa_cons pe_str (pa_cons (pe_xfG (p := p) (C := cTM K) List.mem_cons_self (xt_TooMany T).xf (xn_TooMany_what T) hz hf (pv 0)) pa_nil))) pa_nil)) (pe_lst pa_nil))))
      (pss_cons (ps_set (i := 1) sc__law_e_error.nd rfl (by first | exact Or.inl rfl | exact Or.inr rfl) (pe_op op_cat (pv 1) (pe_ifExp (pt_val (pe_callB (call_isD (p := p) (D := cTM K) (d := d) List.mem_cons_self (xt_TooMany T).exc hz hf) rfl (n_isinstance T) (by decide +kernel) (pa_cons (pv 0) (pa_cons (pe_glob (v := .ref _) rfl (g_BadCalls T) rfl) pa_nil)))) (pe_lst (pa_cons (pe_tup (pa_cons pe_str (pa_cons pe_noway pa_nil))) pa_nil)) (pe_lst pa_nil))))
      (pss_cons (ps_set (i := 1) sc__law_e_error.nd rfl (by first | exact Or.inl rfl | exact Or.inr rfl) (pe_op op_cat (pv 1) (pe_ifExp (pt_val (pe_callB (call_isD (p := p) (D := cTM K) (d := d) List.mem_cons_self (xt_TooMany T).exc hz hf) rfl (n_isinstance T) (by decide +kernel) (pa_cons (pv 0) (pa_cons (pe_glob (v := .ref _) rfl (g_BadOffers T) rfl) pa_nil)))) (pe_lst (pa_cons (pe_tup (pa_cons pe_str (pa_cons pe_noway pa_nil))) pa_nil)) (pe_lst pa_nil))))
      (pss_cons (ps_set (i := 1) sc__law_e_error.nd rfl (by first | exact Or.inl rfl | exact Or.inr rfl) (pe_op op_cat (pv 1) (pe_ifExp (pt_val (pe_callB (call_isD (p := p) (D := cTM K) (d := d) List.mem_cons_self (xt_TooMany T).exc hz hf) rfl (n_isinstance T) (by decide +kernel) (pa_cons (pv 0) (pa_cons (pe_glob (v := .ref _) rfl (g_BadReport T) rfl) pa_nil)))) (pe_lst (pa_cons (pe_tup (pa_cons pe_str (pa_cons pe_noway pa_nil))) pa_nil)) (pe_lst pa_nil))))
      (pss_cons (ps_set (i := 1) sc__law_e_error.nd rfl (by first | exact Or.inl rfl | exact Or.inr rfl) (pe_op op_cat (pv 1) (pe_ifExp (pt_val (pe_callB (call_isD (p := p) (D := cTM K) (d := d) List.mem_cons_self (xt_TooMany T).exc hz hf) rfl (n_isinstance T) (by decide +kernel) (pa_cons (pv 0) (pa_cons (pe_glob (v := .ref _) rfl (g_BadWeather T) rfl) pa_nil)))) (pe_lst (pa_cons (pe_tup (pa_cons pe_str (pa_cons pe_noway pa_nil))) pa_nil)) (pe_lst pa_nil))))
      (pss_cons (ps_set (i := 1) sc__law_e_error.nd rfl (by first | exact Or.inl rfl | exact Or.inr rfl) (pe_op op_cat (pv 1) (pe_ifExp (pt_val (pe_callB (call_isD (p := p) (D := cTM K) (d := d) List.mem_cons_self (xt_TooMany T).exc hz hf) rfl (n_isinstance T) (by decide +kernel) (pa_cons (pv 0) (pa_cons (pe_glob (v := .ref _) rfl (g_BadDay T) rfl) pa_nil)))) (pe_lst (pa_cons (pe_tup (pa_cons pe_str (pa_cons pe_noway pa_nil))) pa_nil)) (pe_lst pa_nil))))
      (pss_cons (ps_set (i := 1) sc__law_e_error.nd rfl (by first | exact Or.inl rfl | exact Or.inr rfl) (pe_op op_cat (pv 1) (pe_ifExp (pt_val (pe_callB (call_isD (p := p) (D := cTM K) (d := d) List.mem_cons_self (xt_TooMany T).exc hz hf) rfl (n_isinstance T) (by decide +kernel) (pa_cons (pv 0) (pa_cons (pe_glob (v := .ref _) rfl (g_BadRow T) rfl) pa_nil)))) (pe_lst (pa_cons (pe_tup (pa_cons pe_str (pa_cons (pe_xfG (p := p) (C := cTM K) List.mem_cons_self (xt_TooMany T).xf (xn_TooMany_what T) hz hf (pv 0)) pa_nil))) pa_nil)) (pe_lst pa_nil))))
      (pss_cons (ps_set (i := 1) sc__law_e_error.nd rfl (by first | exact Or.inl rfl | exact Or.inr rfl) (pe_op op_cat (pv 1) (pe_ifExp (pt_val (pe_callB (call_isD (p := p) (D := cTM K) (d := d) List.mem_cons_self (xt_TooMany T).exc hz hf) rfl (n_isinstance T) (by decide +kernel) (pa_cons (pv 0) (pa_cons (pe_glob (v := .ref _) rfl (g_NotKept T) rfl) pa_nil)))) (pe_lst (pa_cons (pe_tup (pa_cons pe_str (pa_cons pe_noway (pa_cons pe_noway pa_nil)))) pa_nil)) (pe_lst pa_nil))))
      (pss_one (ps_ret (pe_ifExp (PW.pt (pw_and (pt_cmpR op_eq (pe_callB (len_seqK (K := K) rfl) rfl (n_len T) (by decide +kernel) (pa_cons (pv 1) pa_nil)) pe_int (nomark _)) (pw_and1 (pt_val (pe_callB (call_isD (p := p) (D := cTM K) (d := d) List.mem_cons_self (xt_TooMany T).exc hz hf) rfl (n_isinstance T) (by decide +kernel) (pa_cons (pv 0) (pa_cons (pe_bltn (v := .ty "ValueError") (u := .type "ValueError") rfl (n_ValueError T) (by decide +kernel) rfl) pa_nil))))))) (pe_ix (ix_listK (K := K) rfl) (pv 1) pe_int (fun _ _ => rfl)) pe_non)))))))))))), ?_⟩
  have h0 : Same H H := Same.refl H
  refine ⟨_, rfl, _, _, true, _, rfl, (fun u e => e), (h0 _ _ hd), xk_TooMany_TooMany T, _, rfl,  iteT ⟨_, rfl, rfl, rfl, d, _, v, rfl, (h0 _ _ hd), rfl, (by show 2 ≤ sizeLine; decide), fun t ht => ⟨(by show 1 ≤ sizeLine; decide), fun a ha => ?_⟩⟩⟩
  obtain ⟨hA0, hT0⟩ := new2 (.tup [.str "TooMany", v]) ht
  obtain ⟨hA1, hN⟩ := new2 (.lst [V.ref t]) ha
  have hA := hA0.trans hA1
  have hT := hA1 _ _ hT0
  have h1 := h0.trans hA
  have hF := hN
  refine ⟨_, rfl, _, rfl, _, _, false, _, rfl, (fun u e => e), (h1 _ _ hd), xk_TooMany_BadSetting T, _, rfl,  iteF ⟨(by show 0 ≤ sizeLine; decide), fun a ha => ?_⟩⟩
  obtain ⟨hA, hN⟩ := new2 (.lst []) ha
  have hT := hA _ _ hT
  refine ⟨_, a, _, _, rfl, rfl, hA _ _ hF, hN, (by first | (show 0 ≤ sizeLine; decide) | (show 1 ≤ sizeLine; decide)), fun c hc => ?_⟩
  obtain ⟨hC, hF⟩ := new2 (.lst ([V.ref t] ++ [])) hc
  have h2 := (h1.trans hA).trans hC
  have hT := hC _ _ hT
  refine ⟨_, rfl, _, rfl, _, _, false, _, rfl, (fun u e => e), (h2 _ _ hd), xk_TooMany_BadCalls T, _, rfl,  iteF ⟨(by show 0 ≤ sizeLine; decide), fun a ha => ?_⟩⟩
  obtain ⟨hA, hN⟩ := new2 (.lst []) ha
  have hT := hA _ _ hT
  refine ⟨_, a, _, _, rfl, rfl, hA _ _ hF, hN, (by first | (show 0 ≤ sizeLine; decide) | (show 1 ≤ sizeLine; decide)), fun c hc => ?_⟩
  obtain ⟨hC, hF⟩ := new2 (.lst (([V.ref t] ++ []) ++ [])) hc
  have h3 := (h2.trans hA).trans hC
  have hT := hC _ _ hT
  refine ⟨_, rfl, _, rfl, _, _, false, _, rfl, (fun u e => e), (h3 _ _ hd), xk_TooMany_BadOffers T, _, rfl,  iteF ⟨(by show 0 ≤ sizeLine; decide), fun a ha => ?_⟩⟩
  obtain ⟨hA, hN⟩ := new2 (.lst []) ha
  have hT := hA _ _ hT
  refine ⟨_, a, _, _, rfl, rfl, hA _ _ hF, hN, (by first | (show 0 ≤ sizeLine; decide) | (show 1 ≤ sizeLine; decide)), fun c hc => ?_⟩
  obtain ⟨hC, hF⟩ := new2 (.lst ((([V.ref t] ++ []) ++ []) ++ [])) hc
  have h4 := (h3.trans hA).trans hC
  have hT := hC _ _ hT
  refine ⟨_, rfl, _, rfl, _, _, false, _, rfl, (fun u e => e), (h4 _ _ hd), xk_TooMany_BadReport T, _, rfl,  iteF ⟨(by show 0 ≤ sizeLine; decide), fun a ha => ?_⟩⟩
  obtain ⟨hA, hN⟩ := new2 (.lst []) ha
  have hT := hA _ _ hT
  refine ⟨_, a, _, _, rfl, rfl, hA _ _ hF, hN, (by first | (show 0 ≤ sizeLine; decide) | (show 1 ≤ sizeLine; decide)), fun c hc => ?_⟩
  obtain ⟨hC, hF⟩ := new2 (.lst (((([V.ref t] ++ []) ++ []) ++ []) ++ [])) hc
  have h5 := (h4.trans hA).trans hC
  have hT := hC _ _ hT
  refine ⟨_, rfl, _, rfl, _, _, false, _, rfl, (fun u e => e), (h5 _ _ hd), xk_TooMany_BadWeather T, _, rfl,  iteF ⟨(by show 0 ≤ sizeLine; decide), fun a ha => ?_⟩⟩
  obtain ⟨hA, hN⟩ := new2 (.lst []) ha
  have hT := hA _ _ hT
  refine ⟨_, a, _, _, rfl, rfl, hA _ _ hF, hN, (by first | (show 0 ≤ sizeLine; decide) | (show 1 ≤ sizeLine; decide)), fun c hc => ?_⟩
  obtain ⟨hC, hF⟩ := new2 (.lst ((((([V.ref t] ++ []) ++ []) ++ []) ++ []) ++ [])) hc
  have h6 := (h5.trans hA).trans hC
  have hT := hC _ _ hT
  refine ⟨_, rfl, _, rfl, _, _, false, _, rfl, (fun u e => e), (h6 _ _ hd), xk_TooMany_BadDay T, _, rfl,  iteF ⟨(by show 0 ≤ sizeLine; decide), fun a ha => ?_⟩⟩
  obtain ⟨hA, hN⟩ := new2 (.lst []) ha
  have hT := hA _ _ hT
  refine ⟨_, a, _, _, rfl, rfl, hA _ _ hF, hN, (by first | (show 0 ≤ sizeLine; decide) | (show 1 ≤ sizeLine; decide)), fun c hc => ?_⟩
  obtain ⟨hC, hF⟩ := new2 (.lst (((((([V.ref t] ++ []) ++ []) ++ []) ++ []) ++ []) ++ [])) hc
  have h7 := (h6.trans hA).trans hC
  have hT := hC _ _ hT
  refine ⟨_, rfl, _, rfl, _, _, false, _, rfl, (fun u e => e), (h7 _ _ hd), xk_TooMany_BadRow T, _, rfl,  iteF ⟨(by show 0 ≤ sizeLine; decide), fun a ha => ?_⟩⟩
  obtain ⟨hA, hN⟩ := new2 (.lst []) ha
  have hT := hA _ _ hT
  refine ⟨_, a, _, _, rfl, rfl, hA _ _ hF, hN, (by first | (show 0 ≤ sizeLine; decide) | (show 1 ≤ sizeLine; decide)), fun c hc => ?_⟩
  obtain ⟨hC, hF⟩ := new2 (.lst ((((((([V.ref t] ++ []) ++ []) ++ []) ++ []) ++ []) ++ []) ++ [])) hc
  have h8 := (h7.trans hA).trans hC
  have hT := hC _ _ hT
  refine ⟨_, rfl, _, rfl, _, _, false, _, rfl, (fun u e => e), (h8 _ _ hd), xk_TooMany_NotKept T, _, rfl,  iteF ⟨(by show 0 ≤ sizeLine; decide), fun a ha => ?_⟩⟩
  obtain ⟨hA, hN⟩ := new2 (.lst []) ha
  have hT := hA _ _ hT
  refine ⟨_, a, _, _, rfl, rfl, hA _ _ hF, hN, (by first | (show 0 ≤ sizeLine; decide) | (show 1 ≤ sizeLine; decide)), fun c hc => ?_⟩
  obtain ⟨hC, hF⟩ := new2 (.lst (((((((([V.ref t] ++ []) ++ []) ++ []) ++ []) ++ []) ++ []) ++ []) ++ [])) hc
  have h9 := (h8.trans hA).trans hC
  have hT := hC _ _ hT
  refine ⟨_, rfl, _, _, rfl, .inl (SqL.of hF), rfl, _, rfl, iteT ⟨_, rfl, _, _, true, _, rfl, (fun u e => e), h9 _ _ hd, xv_TooMany T, _, rfl, iteT ⟨_, rfl, _, _, 0, _, rfl, rfl, SqL.of hF, rfl, ?_⟩⟩⟩
  exact q _ _ h9 hT

def spErr_BadSetting (K : PySem.W.Frag) : SpE := fun a cls d vs H Q _ => ∃ (d' : Addr) (v : V), vs = [.ref a] ∧ d = some d' ∧ cls = .ref (cBS K) ∧ H d' = some (.xd [("what", v)]) ∧ ∀ t H', Same H H' → H' t = some (.tup [.str "BadSetting", v]) → Q (.ref t) H'
theorem body_BadSetting (T : Txt w K mg) {A : Around} {outer : List Env} {s : Shared} {H : Hp} {Q : VK} {p : Addr × Obj} {d : Addr} {v : V} {f : Addr} {cdv : Value} (hz : Zc (.ref (cBS K)) (some d) p.2) (hf : ∃ vs, p.2.data = .fields vs)
    (hd : H d = some (.xd [("what", v)])) (q : ∀ t H', Same H H' → H' t = some (.tup [.str "BadSetting", v]) → Q (.ref t) H') :
    ∃ t, PSs (L2H.cxH CX0 P w K mg base ["error", "found"] "_law_e_error" (defScope s__law_e_error) f cdv A outer s H E0 p) (defBody s__law_e_error) t ∧ t { nx := fun _ H' => Q .non H', rt := Q } (L2.start ["error", "found"] [.ref p.1]) H := by
  refine ⟨_, (pss_cons (ps_set (i := 1) sc__law_e_error.nd rfl (by first | exact Or.inl rfl | exact Or.inr rfl) (pe_ifExp (pt_val (pe_callB (call_isD (p := p) (D := cBS K) (d := d) List.mem_cons_self (xt_BadSetting T).exc hz hf) rfl (n_isinstance T) (by decide +kernel) (pa_cons (pv 0) (pa_cons (pe_glob (v := .ref _) rfl (g_TooMany T) rfl) pa_nil)))) (pe_lst (pa_cons (pe_tup (pa_cons pe_str (pa_cons (pe_xfG (p := p) (C := cBS K) List.mem_cons_self (xt_BadSetting T).xf (xn_BadSetting_what T) hz hf (pv 0)) pa_nil))) pa_nil)) (pe_lst pa_nil)))
      (pss_cons (ps_set (i := 1) sc__law_e_error.nd rfl (by first | exact Or.inl rfl | exact Or.inr rfl) (pe_op op_cat (pv 1) (pe_ifExp (pt_val (pe_callB (call_isD (p := p) (D := cBS K) (d := d) List.mem_cons_self (xt_BadSetting T).exc hz hf) rfl (n_isinstance T) (by decide +kernel) (pa_cons (pv 0) (pa_cons (pe_glob (v := .ref _) rfl (g_BadSetting T) rfl) pa_nil)))) (pe_lst (pa_cons (pe_tup (pa_cons pe_str (pa_cons (pe_xfG (p := p) (C := cBS K) List.mem_cons_self (xt_BadSetting T).xf (xn_BadSetting_what T) hz hf (pv 0)) pa_nil))) pa_nil)) (pe_lst pa_nil))))
      (pss_cons (ps_set (i := 1) sc__law_e_error.nd rfl (by first | exact Or.inl rfl | exact Or.inr rfl) (pe_op op_cat (pv 1) (pe_ifExp (pt_val (pe_callB (call_isD (p := p) (D := cBS K) (d := d) List.mem_cons_self (xt_BadSetting T).exc hz hf) rfl (n_isinstance T) (by decide +kernel) (pa_cons (pv 0) (pa_cons (pe_glob (v := .ref _) rfl (g_BadCalls T) rfl) pa_nil)))) (pe_lst (pa_cons (pe_tup (pa_cons pe_str (pa_cons pe_noway pa_nil))) pa_nil)) (pe_lst pa_nil))))
      (pss_cons (ps_set (i := 1) sc__law_e_error.nd rfl (by first | exact Or.inl rfl | exact Or.inr rfl) (pe_op op_cat (pv 1) (pe_ifExp (pt_val (pe_callB (call_isD (p := p) (D := cBS K) (d := d) List.mem_cons_self (xt_BadSetting T).exc hz hf) rfl (n_isinstance T) (by decide +kernel) (pa_cons (pv 0) (pa_cons (pe_glob (v := .ref _) rfl (g_BadOffers T) rfl) pa_nil)))) (pe_lst (pa_cons (pe_tup (pa_cons pe_str (pa_cons pe_noway pa_nil))) pa_nil)) (pe_lst pa_nil))))
      (pss_cons (ps_set (i := 1) sc__law_e_error.nd rfl (by first | exact Or.inl rfl | exact Or.inr rfl) (pe_op op_cat (pv 1) (pe_ifExp (pt_val (pe_callB (call_isD (p := p) (D := cBS K) (d := d) List.mem_cons_self (xt_BadSetting T).exc hz hf) rfl (n_isinstance T) (by decide +kernel) (pa_cons (pv 0) (pa_cons (pe_glob (v := .ref _) rfl (g_BadReport T) rfl) pa_nil)))) (pe_lst (pa_cons (pe_tup (pa_cons pe_str (pa_cons pe_noway pa_nil))) pa_nil)) (pe_lst pa_nil))))
      (pss_cons (ps_set (i := 1) sc__law_e_error.nd rfl (by first | exact Or.inl rfl | exact Or.inr rfl) (pe_op op_cat (pv 1) (pe_ifExp (pt_val (pe_callB (call_isD (p := p) (D := cBS K) (d := d) List.mem_cons_self (xt_BadSetting T).exc hz hf) rfl (n_isinstance T) (by decide +kernel) (pa_cons (pv 0) (pa_cons (pe_glob (v := .ref _) rfl (g_BadWeather T) rfl) pa_nil)))) (pe_lst (pa_cons (pe_tup (pa_cons pe_str (pa_cons pe_noway pa_nil))) pa_nil)) (pe_lst pa_nil))))
      (pss_cons (ps_set (i := 1) sc__law_e_error.nd rfl (by first | exact Or.inl rfl | exact Or.inr rfl) (pe_op op_cat (pv 1) (pe_ifExp (pt_val (pe_callB (call_isD (p := p) (D := cBS K) (d := d) List.mem_cons_self (xt_BadSetting T).exc hz hf) rfl (n_isinstance T) (by decide +kernel) (pa_cons (pv 0) (pa_cons (pe_glob (v := .ref _) rfl (g_BadDay T) rfl) pa_nil)))) (pe_lst (pa_cons (pe_tup (pa_cons pe_str (pa_cons pe_noway pa_nil))) pa_nil)) (pe_lst pa_nil))))
      (pss_cons (ps_set (i := 1) sc__law_e_error.nd rfl (by first | exact Or.inl rfl | exact Or.inr rfl) (pe_op op_cat (pv 1) (pe_ifExp (pt_val (pe_callB (call_isD (p := p) (D := cBS K) (d := d) List.mem_cons_self (xt_BadSetting T).exc hz hf) rfl (n_isinstance T) (by decide +kernel) (pa_cons (pv 0) (pa_cons (pe_glob (v := .ref _) rfl (g_BadRow T) rfl) pa_nil)))) (pe_lst (pa_cons (pe_tup (pa_cons pe_str (pa_cons (pe_xfG (p := p) (C := cBS K) List.mem_cons_self (xt_BadSetting T).xf (xn_BadSetting_what T) hz hf (pv 0)) pa_nil))) pa_nil)) (pe_lst pa_nil))))
      (pss_cons (ps_set (i := 1) sc__law_e_error.nd rfl (by first | exact Or.inl rfl | exact Or.inr rfl) (pe_op op_cat (pv 1) (pe_ifExp (pt_val (pe_callB (call_isD (p := p) (D := cBS K) (d := d) List.mem_cons_self (xt_BadSetting T).exc hz hf) rfl (n_isinstance T) (by decide +kernel) (pa_cons (pv 0) (pa_cons (pe_glob (v := .ref _) rfl (g_NotKept T) rfl) pa_nil)))) (pe_lst (pa_cons (pe_tup (pa_cons pe_str (pa_cons pe_noway (pa_cons pe_noway pa_nil)))) pa_nil)) (pe_lst pa_nil))))
      (pss_one (ps_ret (pe_ifExp (PW.pt (pw_and (pt_cmpR op_eq (pe_callB (len_seqK (K := K) rfl) rfl (n_len T) (by decide +kernel) (pa_cons (pv 1) pa_nil)) pe_int (nomark _)) (pw_and1 (pt_val (pe_callB (call_isD (p := p) (D := cBS K) (d := d) List.mem_cons_self (xt_BadSetting T).exc hz hf) rfl (n_isinstance T) (by decide +kernel) (pa_cons (pv 0) (pa_cons (pe_bltn (v := .ty "ValueError") (u := .type "ValueError") rfl (n_ValueError T) (by decide +kernel) rfl) pa_nil))))))) (pe_ix (ix_listK (K := K) rfl) (pv 1) pe_int (fun _ _ => rfl)) pe_non)))))))))))), ?_⟩
  have h0 : Same H H := Same.refl H
  refine ⟨_, rfl, _, _, false, _, rfl, (fun u e => e), (h0 _ _ hd), xk_BadSetting_TooMany T, _, rfl,  iteF ⟨(by show 0 ≤ sizeLine; decide), fun a ha => ?_⟩⟩
  obtain ⟨hA, hN⟩ := new2 (.lst []) ha
  have h1 := h0.trans hA
  have hF := hN
  refine ⟨_, rfl, _, rfl, _, _, true, _, rfl, (fun u e => e), (h1 _ _ hd), xk_BadSetting_BadSetting T, _, rfl,  iteT ⟨_, rfl, rfl, rfl, d, _, v, rfl, (h1 _ _ hd), rfl, (by show 2 ≤ sizeLine; decide), fun t ht => ⟨(by show 1 ≤ sizeLine; decide), fun a ha => ?_⟩⟩⟩
  obtain ⟨hA0, hT0⟩ := new2 (.tup [.str "BadSetting", v]) ht
  obtain ⟨hA1, hN⟩ := new2 (.lst [V.ref t]) ha
  have hA := hA0.trans hA1
  have hT := hA1 _ _ hT0
  refine ⟨_, a, _, _, rfl, rfl, hA _ _ hF, hN, (by first | (show 0 ≤ sizeLine; decide) | (show 1 ≤ sizeLine; decide)), fun c hc => ?_⟩
  obtain ⟨hC, hF⟩ := new2 (.lst ([] ++ [V.ref t])) hc
  have h2 := (h1.trans hA).trans hC
  have hT := hC _ _ hT
  refine ⟨_, rfl, _, rfl, _, _, false, _, rfl, (fun u e => e), (h2 _ _ hd), xk_BadSetting_BadCalls T, _, rfl,  iteF ⟨(by show 0 ≤ sizeLine; decide), fun a ha => ?_⟩⟩
  obtain ⟨hA, hN⟩ := new2 (.lst []) ha
  have hT := hA _ _ hT
  refine ⟨_, a, _, _, rfl, rfl, hA _ _ hF, hN, (by first | (show 0 ≤ sizeLine; decide) | (show 1 ≤ sizeLine; decide)), fun c hc => ?_⟩
  obtain ⟨hC, hF⟩ := new2 (.lst (([] ++ [V.ref t]) ++ [])) hc
  have h3 := (h2.trans hA).trans hC
  have hT := hC _ _ hT
  refine ⟨_, rfl, _, rfl, _, _, false, _, rfl, (fun u e => e), (h3 _ _ hd), xk_BadSetting_BadOffers T, _, rfl,  iteF ⟨(by show 0 ≤ sizeLine; decide), fun a ha => ?_⟩⟩
  obtain ⟨hA, hN⟩ := new2 (.lst []) ha
  have hT := hA _ _ hT
  refine ⟨_, a, _, _, rfl, rfl, hA _ _ hF, hN, (by first | (show 0 ≤ sizeLine; decide) | (show 1 ≤ sizeLine; decide)), fun c hc => ?_⟩
  obtain ⟨hC, hF⟩ := new2 (.lst ((([] ++ [V.ref t]) ++ []) ++ [])) hc
  have h4 := (h3.trans hA).trans hC
  have hT := hC _ _ hT
  refine ⟨_, rfl, _, rfl, _, _, false, _, rfl, (fun u e => e), (h4 _ _ hd), xk_BadSetting_BadReport T, _, rfl,  iteF ⟨(by show 0 ≤ sizeLine; decide), fun a ha => ?_⟩⟩
  obtain ⟨hA, hN⟩ := new2 (.lst []) ha
  have hT := hA _ _ hT
  refine ⟨_, a, _, _, rfl, rfl, hA _ _ hF, hN, (by first | (show 0 ≤ sizeLine; decide) | (show 1 ≤ sizeLine; decide)), fun c hc => ?_⟩
  obtain ⟨hC, hF⟩ := new2 (.lst (((([] ++ [V.ref t]) ++ []) ++ []) ++ [])) hc
  have h5 := (h4.trans hA).trans hC
  have hT := hC _ _ hT
  refine ⟨_, rfl, _, rfl, _, _, false, _, rfl, (fun u e => e), (h5 _ _ hd), xk_BadSetting_BadWeather T, _, rfl,  iteF ⟨(by show 0 ≤ sizeLine; decide), fun a ha => ?_⟩⟩
  obtain ⟨hA, hN⟩ := new2 (.lst []) ha
  have hT := hA _ _ hT
  refine ⟨_, a, _, _, rfl, rfl, hA _ _ hF, hN, (by first | (show 0 ≤ sizeLine; decide) | (show 1 ≤ sizeLine; decide)), fun c hc => ?_⟩
  obtain ⟨hC, hF⟩ := new2 (.lst ((((([] ++ [V.ref t]) ++ []) ++ []) ++ []) ++ [])) hc
  have h6 := (h5.trans hA).trans hC
  have hT := hC _ _ hT
  refine ⟨_, rfl, _, rfl, _, _, false, _, rfl, (fun u e => e), (h6 _ _ hd), xk_BadSetting_BadDay T, _, rfl,  iteF ⟨(by show 0 ≤ sizeLine; decide), fun a ha => ?_⟩⟩
  obtain ⟨hA, hN⟩ := new2 (.lst []) ha
  have hT := hA _ _ hT
  refine ⟨_, a, _, _, rfl, rfl, hA _ _ hF, hN, (by first | (show 0 ≤ sizeLine; decide) | (show 1 ≤ sizeLine; decide)), fun c hc => ?_⟩
  obtain ⟨hC, hF⟩ := new2 (.lst (((((([] ++ [V.ref t]) ++ []) ++ []) ++ []) ++ []) ++ [])) hc
  have h7 := (h6.trans hA).trans hC
  have hT := hC _ _ hT
  refine ⟨_, rfl, _, rfl, _, _, false, _, rfl, (fun u e => e), (h7 _ _ hd), xk_BadSetting_BadRow T, _, rfl,  iteF ⟨(by show 0 ≤ sizeLine; decide), fun a ha => ?_⟩⟩
  obtain ⟨hA, hN⟩ := new2 (.lst []) ha
  have hT := hA _ _ hT
  refine ⟨_, a, _, _, rfl, rfl, hA _ _ hF, hN, (by first | (show 0 ≤ sizeLine; decide) | (show 1 ≤ sizeLine; decide)), fun c hc => ?_⟩
  obtain ⟨hC, hF⟩ := new2 (.lst ((((((([] ++ [V.ref t]) ++ []) ++ []) ++ []) ++ []) ++ []) ++ [])) hc
  have h8 := (h7.trans hA).trans hC
  have hT := hC _ _ hT
  refine ⟨_, rfl, _, rfl, _, _, false, _, rfl, (fun u e => e), (h8 _ _ hd), xk_BadSetting_NotKept T, _, rfl,  iteF ⟨(by show 0 ≤ sizeLine; decide), fun a ha => ?_⟩⟩
  obtain ⟨hA, hN⟩ := new2 (.lst []) ha
  have hT := hA _ _ hT
  refine ⟨_, a, _, _, rfl, rfl, hA _ _ hF, hN, (by first | (show 0 ≤ sizeLine; decide) | (show 1 ≤ sizeLine; decide)), fun c hc => ?_⟩
  obtain ⟨hC, hF⟩ := new2 (.lst (((((((([] ++ [V.ref t]) ++ []) ++ []) ++ []) ++ []) ++ []) ++ []) ++ [])) hc
  have h9 := (h8.trans hA).trans hC
  have hT := hC _ _ hT
  refine ⟨_, rfl, _, _, rfl, .inl (SqL.of hF), rfl, _, rfl, iteT ⟨_, rfl, _, _, true, _, rfl, (fun u e => e), h9 _ _ hd, xv_BadSetting T, _, rfl, iteT ⟨_, rfl, _, _, 0, _, rfl, rfl, SqL.of hF, rfl, ?_⟩⟩⟩
  exact q _ _ h9 hT

def spErr_BadCalls (K : PySem.W.Frag) : SpE := fun a cls d vs H Q _ => ∃ (d' : Addr) (v : V), vs = [.ref a] ∧ d = some d' ∧ cls = .ref (cBC K) ∧ H d' = some (.xd [("row", v)]) ∧ ∀ t H', Same H H' → H' t = some (.tup [.str "BadCalls", v]) → Q (.ref t) H'
theorem body_BadCalls (T : Txt w K mg) {A : Around} {outer : List Env} {s : Shared} {H : Hp} {Q : VK} {p : Addr × Obj} {d : Addr} {v : V} {f : Addr} {cdv : Value} (hz : Zc (.ref (cBC K)) (some d) p.2) (hf : ∃ vs, p.2.data = .fields vs)
    (hd : H d = some (.xd [("row", v)])) (q : ∀ t H', Same H H' → H' t = some (.tup [.str "BadCalls", v]) → Q (.ref t) H') :
    ∃ t, PSs (L2H.cxH CX0 P w K mg base ["error", "found"] "_law_e_error" (defScope s__law_e_error) f cdv A outer s H E0 p) (defBody s__law_e_error) t ∧ t { nx := fun _ H' => Q .non H', rt := Q } (L2.start ["error", "found"] [.ref p.1]) H := by
  refine ⟨_, (pss_cons (ps_set (i := 1) sc__law_e_error.nd rfl (by first | exact Or.inl rfl | exact Or.inr rfl) (pe_ifExp (pt_val (pe_callB (call_isD (p := p) (D := cBC K) (d := d) List.mem_cons_self (xt_BadCalls T).exc hz hf) rfl (n_isinstance T) (by decide +kernel) (pa_cons (pv 0) (pa_cons (pe_glob (v := .ref _) rfl (g_TooMany T) rfl) pa_nil)))) (pe_lst (pa_cons (pe_tup (pa_cons pe_str (pa_cons pe_noway pa_nil))) pa_nil)) (pe_lst pa_nil)))
      (pss_cons (ps_set (i := 1) sc__law_e_error.nd rfl (by first | exact Or.inl rfl | exact Or.inr rfl) (pe_op op_cat (pv 1) (pe_ifExp (pt_val (pe_callB (call_isD (p := p) (D := cBC K) (d := d) List.mem_cons_self (xt_BadCalls T).exc hz hf) rfl (n_isinstance T) (by decide +kernel) (pa_cons (pv 0) (pa_cons (pe_glob (v := .ref _) rfl (g_BadSetting T) rfl) pa_nil)))) (pe_lst (pa_cons (pe_tup (pa_cons pe_str (pa_cons pe_noway pa_nil))) pa_nil)) (pe_lst pa_nil))))
      (pss_cons (ps_set (i := 1) sc__law_e_error.nd rfl (by first | exact Or.inl rfl | exact Or.inr rfl) (pe_op op_cat (pv 1) (pe_ifExp (pt_val (pe_callB (call_isD (p := p) (D := cBC K) (d := d) List.mem_cons_self (xt_BadCalls T).exc hz hf) rfl (n_isinstance T) (by decide +kernel) (pa_cons (pv 0) (pa_cons (pe_glob (v := .ref _) rfl (g_BadCalls T) rfl) pa_nil)))) (pe_lst (pa_cons (pe_tup (pa_cons pe_str (pa_cons (pe_xfG (p := p) (C := cBC K) List.mem_cons_self (xt_BadCalls T).xf (xn_BadCalls_row T) hz hf (pv 0)) pa_nil))) pa_nil)) (pe_lst pa_nil))))
      (pss_cons (ps_set (i := 1) sc__law_e_error.nd rfl (by first | exact Or.inl rfl | exact Or.inr rfl) (pe_op op_cat (pv 1) (pe_ifExp (pt_val (pe_callB (call_isD (p := p) (D := cBC K) (d := d) List.mem_cons_self (xt_BadCalls T).exc hz hf) rfl (n_isinstance T) (by decide +kernel) (pa_cons (pv 0) (pa_cons (pe_glob (v := .ref _) rfl (g_BadOffers T) rfl) pa_nil)))) (pe_lst (pa_cons (pe_tup (pa_cons pe_str (pa_cons (pe_xfG (p := p) (C := cBC K) List.mem_cons_self (xt_BadCalls T).xf (xn_BadCalls_row T) hz hf (pv 0)) pa_nil))) pa_nil)) (pe_lst pa_nil))))
      (pss_cons (ps_set (i := 1) sc__law_e_error.nd rfl (by first | exact Or.inl rfl | exact Or.inr rfl) (pe_op op_cat (pv 1) (pe_ifExp (pt_val (pe_callB (call_isD (p := p) (D := cBC K) (d := d) List.mem_cons_self (xt_BadCalls T).exc hz hf) rfl (n_isinstance T) (by decide +kernel) (pa_cons (pv 0) (pa_cons (pe_glob (v := .ref _) rfl (g_BadReport T) rfl) pa_nil)))) (pe_lst (pa_cons (pe_tup (pa_cons pe_str (pa_cons pe_noway pa_nil))) pa_nil)) (pe_lst pa_nil))))
      (pss_cons (ps_set (i := 1) sc__law_e_error.nd rfl (by first | exact Or.inl rfl | exact Or.inr rfl) (pe_op op_cat (pv 1) (pe_ifExp (pt_val (pe_callB (call_isD (p := p) (D := cBC K) (d := d) List.mem_cons_self (xt_BadCalls T).exc hz hf) rfl (n_isinstance T) (by decide +kernel) (pa_cons (pv 0) (pa_cons (pe_glob (v := .ref _) rfl (g_BadWeather T) rfl) pa_nil)))) (pe_lst (pa_cons (pe_tup (pa_cons pe_str (pa_cons pe_noway pa_nil))) pa_nil)) (pe_lst pa_nil))))
      (pss_cons (ps_set (i := 1) sc__law_e_error.nd rfl (by first | exact Or.inl rfl | exact Or.inr rfl) (pe_op op_cat (pv 1) (pe_ifExp (pt_val (pe_callB (call_isD (p := p) (D := cBC K) (d := d) List.mem_cons_self (xt_BadCalls T).exc hz hf) rfl (n_isinstance T) (by decide +kernel) (pa_cons (pv 0) (pa_cons (pe_glob (v := .ref _) rfl (g_BadDay T) rfl) pa_nil)))) (pe_lst (pa_cons (pe_tup (pa_cons pe_str (pa_cons pe_noway pa_nil))) pa_nil)) (pe_lst pa_nil))))
      (pss_cons (ps_set (i := 1) sc__law_e_error.nd rfl (by first | exact Or.inl rfl | exact Or.inr rfl) (pe_op op_cat (pv 1) (pe_ifExp (pt_val (pe_callB (call_isD (p := p) (D := cBC K) (d := d) List.mem_cons_self (xt_BadCalls T).exc hz hf) rfl (n_isinstance T) (by decide +kernel) (pa_cons (pv 0) (pa_cons (pe_glob (v := .ref _) rfl (g_BadRow T) rfl) pa_nil)))) (pe_lst (pa_cons (pe_tup (pa_cons pe_str (pa_cons pe_noway pa_nil))) pa_nil)) (pe_lst pa_nil))))
      (pss_cons (ps_set (i := 1) sc__law_e_error.nd rfl (by first | exact Or.inl rfl | exact Or.inr rfl) (pe_op op_cat (pv 1) (pe_ifExp (pt_val (pe_callB (call_isD (p := p) (D := cBC K) (d := d) List.mem_cons_self (xt_BadCalls T).exc hz hf) rfl (n_isinstance T) (by decide +kernel) (pa_cons (pv 0) (pa_cons (pe_glob (v := .ref _) rfl (g_NotKept T) rfl) pa_nil)))) (pe_lst (pa_cons (pe_tup (pa_cons pe_str (pa_cons pe_noway (pa_cons pe_noway pa_nil)))) pa_nil)) (pe_lst pa_nil))))
      (pss_one (ps_ret (pe_ifExp (PW.pt (pw_and (pt_cmpR op_eq (pe_callB (len_seqK (K := K) rfl) rfl (n_len T) (by decide +kernel) (pa_cons (pv 1) pa_nil)) pe_int (nomark _)) (pw_and1 (pt_val (pe_callB (call_isD (p := p) (D := cBC K) (d := d) List.mem_cons_self (xt_BadCalls T).exc hz hf) rfl (n_isinstance T) (by decide +kernel) (pa_cons (pv 0) (pa_cons (pe_bltn (v := .ty "ValueError") (u := .type "ValueError") rfl (n_ValueError T) (by decide +kernel) rfl) pa_nil))))))) (pe_ix (ix_listK (K := K) rfl) (pv 1) pe_int (fun _ _ => rfl)) pe_non)))))))))))), ?_⟩
  have h0 : Same H H := Same.refl H
  refine ⟨_, rfl, _, _, false, _, rfl, (fun u e => e), (h0 _ _ hd), xk_BadCalls_TooMany T, _, rfl,  iteF ⟨(by show 0 ≤ sizeLine; decide), fun a ha => ?_⟩⟩
  obtain ⟨hA, hN⟩ := new2 (.lst []) ha
  have h1 := h0.trans hA
  have hF := hN
  refine ⟨_, rfl, _, rfl, _, _, false, _, rfl, (fun u e => e), (h1 _ _ hd), xk_BadCalls_BadSetting T, _, rfl,  iteF ⟨(by show 0 ≤ sizeLine; decide), fun a ha => ?_⟩⟩
  obtain ⟨hA, hN⟩ := new2 (.lst []) ha
  refine ⟨_, a, _, _, rfl, rfl, hA _ _ hF, hN, (by first | (show 0 ≤ sizeLine; decide) | (show 1 ≤ sizeLine; decide)), fun c hc => ?_⟩
  obtain ⟨hC, hF⟩ := new2 (.lst ([] ++ [])) hc
  have h2 := (h1.trans hA).trans hC
  refine ⟨_, rfl, _, rfl, _, _, true, _, rfl, (fun u e => e), (h2 _ _ hd), xk_BadCalls_BadCalls T, _, rfl,  iteT ⟨_, rfl, rfl, rfl, d, _, v, rfl, (h2 _ _ hd), rfl, (by show 2 ≤ sizeLine; decide), fun t ht => ⟨(by show 1 ≤ sizeLine; decide), fun a ha => ?_⟩⟩⟩
  obtain ⟨hA0, hT0⟩ := new2 (.tup [.str "BadCalls", v]) ht
  obtain ⟨hA1, hN⟩ := new2 (.lst [V.ref t]) ha
  have hA := hA0.trans hA1
  have hT := hA1 _ _ hT0
  refine ⟨_, a, _, _, rfl, rfl, hA _ _ hF, hN, (by first | (show 0 ≤ sizeLine; decide) | (show 1 ≤ sizeLine; decide)), fun c hc => ?_⟩
  obtain ⟨hC, hF⟩ := new2 (.lst (([] ++ []) ++ [V.ref t])) hc
  have h3 := (h2.trans hA).trans hC
  have hT := hC _ _ hT
  refine ⟨_, rfl, _, rfl, _, _, false, _, rfl, (fun u e => e), (h3 _ _ hd), xk_BadCalls_BadOffers T, _, rfl,  iteF ⟨(by show 0 ≤ sizeLine; decide), fun a ha => ?_⟩⟩
  obtain ⟨hA, hN⟩ := new2 (.lst []) ha
  have hT := hA _ _ hT
  refine ⟨_, a, _, _, rfl, rfl, hA _ _ hF, hN, (by first | (show 0 ≤ sizeLine; decide) | (show 1 ≤ sizeLine; decide)), fun c hc => ?_⟩
  obtain ⟨hC, hF⟩ := new2 (.lst ((([] ++ []) ++ [V.ref t]) ++ [])) hc
  have h4 := (h3.trans hA).trans hC
  have hT := hC _ _ hT
  refine ⟨_, rfl, _, rfl, _, _, false, _, rfl, (fun u e => e), (h4 _ _ hd), xk_BadCalls_BadReport T, _, rfl,  iteF ⟨(by show 0 ≤ sizeLine; decide), fun a ha => ?_⟩⟩
  obtain ⟨hA, hN⟩ := new2 (.lst []) ha
  have hT := hA _ _ hT
  refine ⟨_, a, _, _, rfl, rfl, hA _ _ hF, hN, (by first | (show 0 ≤ sizeLine; decide) | (show 1 ≤ sizeLine; decide)), fun c hc => ?_⟩
  obtain ⟨hC, hF⟩ := new2 (.lst (((([] ++ []) ++ [V.ref t]) ++ []) ++ [])) hc
  have h5 := (h4.trans hA).trans hC
  have hT := hC _ _ hT
  refine ⟨_, rfl, _, rfl, _, _, false, _, rfl, (fun u e => e), (h5 _ _ hd), xk_BadCalls_BadWeather T, _, rfl,  iteF ⟨(by show 0 ≤ sizeLine; decide), fun a ha => ?_⟩⟩
  obtain ⟨hA, hN⟩ := new2 (.lst []) ha
  have hT := hA _ _ hT
  refine ⟨_, a, _, _, rfl, rfl, hA _ _ hF, hN, (by first | (show 0 ≤ sizeLine; decide) | (show 1 ≤ sizeLine; decide)), fun c hc => ?_⟩
  obtain ⟨hC, hF⟩ := new2 (.lst ((((([] ++ []) ++ [V.ref t]) ++ []) ++ []) ++ [])) hc
  have h6 := (h5.trans hA).trans hC
  have hT := hC _ _ hT
  refine ⟨_, rfl, _, rfl, _, _, false, _, rfl, (fun u e => e), (h6 _ _ hd), xk_BadCalls_BadDay T, _, rfl,  iteF ⟨(by show 0 ≤ sizeLine; decide), fun a ha => ?_⟩⟩
  obtain ⟨hA, hN⟩ := new2 (.lst []) ha
  have hT := hA _ _ hT
  refine ⟨_, a, _, _, rfl, rfl, hA _ _ hF, hN, (by first | (show 0 ≤ sizeLine; decide) | (show 1 ≤ sizeLine; decide)), fun c hc => ?_⟩
  obtain ⟨hC, hF⟩ := new2 (.lst (((((([] ++ []) ++ [V.ref t]) ++ []) ++ []) ++ []) ++ [])) hc
  have h7 := (h6.trans hA).trans hC
  have hT := hC _ _ hT
  refine ⟨_, rfl, _, rfl, _, _, false, _, rfl, (fun u e => e), (h7 _ _ hd), xk_BadCalls_BadRow T, _, rfl,  iteF ⟨(by show 0 ≤ sizeLine; decide), fun a ha => ?_⟩⟩
  obtain ⟨hA, hN⟩ := new2 (.lst []) ha
  have hT := hA _ _ hT
  refine ⟨_, a, _, _, rfl, rfl, hA _ _ hF, hN, (by first | (show 0 ≤ sizeLine; decide) | (show 1 ≤ sizeLine; decide)), fun c hc => ?_⟩
  obtain ⟨hC, hF⟩ := new2 (.lst ((((((([] ++ []) ++ [V.ref t]) ++ []) ++ []) ++ []) ++ []) ++ [])) hc
  have h8 := (h7.trans hA).trans hC
  have hT := hC _ _ hT
  refine ⟨_, rfl, _, rfl, _, _, false, _, rfl, (fun u e => e), (h8 _ _ hd), xk_BadCalls_NotKept T, _, rfl,  iteF ⟨(by show 0 ≤ sizeLine; decide), fun a ha => ?_⟩⟩
  obtain ⟨hA, hN⟩ := new2 (.lst []) ha
  have hT := hA _ _ hT
  refine ⟨_, a, _, _, rfl, rfl, hA _ _ hF, hN, (by first | (show 0 ≤ sizeLine; decide) | (show 1 ≤ sizeLine; decide)), fun c hc => ?_⟩
  obtain ⟨hC, hF⟩ := new2 (.lst (((((((([] ++ []) ++ [V.ref t]) ++ []) ++ []) ++ []) ++ []) ++ []) ++ [])) hc
  have h9 := (h8.trans hA).trans hC
  have hT := hC _ _ hT
  refine ⟨_, rfl, _, _, rfl, .inl (SqL.of hF), rfl, _, rfl, iteT ⟨_, rfl, _, _, true, _, rfl, (fun u e => e), h9 _ _ hd, xv_BadCalls T, _, rfl, iteT ⟨_, rfl, _, _, 0, _, rfl, rfl, SqL.of hF, rfl, ?_⟩⟩⟩
  exact q _ _ h9 hT

def ErrC (K : PySem.W.Frag) (C : Addr) (z fl : Str) : Prop := (C = cTM K ∧ z = "TooMany" ∧ fl = "what") ∨ (C = cBS K ∧ z = "BadSetting" ∧ fl = "what") ∨ (C = cBC K ∧ z = "BadCalls" ∧ fl = "row")
def spErr (K : PySem.W.Frag) : SpE := fun a cls d vs H Q _ => ∃ (C : Addr) (z fl : Str) (d' : Addr) (v : V), ErrC K C z fl ∧ vs = [.ref a] ∧ cls = .ref C ∧ d = some d' ∧ H d' = some (.xd [(fl, v)]) ∧ ∀ t H', Same H H' → H' t = some (.tup [.str z, v]) → Q (.ref t) H'
theorem fe_error (T : Txt w K mg) : ∃ f fd, FnE P w K mg base 1 f fd ["error"] (spErr K) ∧ mg "_law_e_error" = some (.ref f) ∧ PySem.W.keepIn K (.ref f) = true ∧ Binds K fd ["error"] [] := by
  obtain ⟨f, fd, F, g⟩ := f__law_e_error T
  refine ⟨f, fd, ?_, g, F.kp, F.bindsN (fun _ _ _ _ _ _ us hl => match us, hl with | [_], _ => rfl)⟩
  obtain ⟨oc, od, dV, kV, doc, pm, an, cdv, ct, osl, rfl, lk, hcd, _, _⟩ := F.ex
  refine fnE_of (k := 0) lk hcd sc__law_e_error (fun a cls d vs H Q E h => ?_) (fun A outer s H vs Q p cls d hr hz hf h => ?_)
  · obtain ⟨C, z, fl, d', v, _, rfl, _⟩ := h
    rfl
  · obtain ⟨C, z, fl, d', v, hC, rfl, rfl, rfl, hd, q⟩ := h
    rcases hC with ⟨rfl, rfl, rfl⟩ | ⟨rfl, rfl, rfl⟩ | ⟨rfl, rfl, rfl⟩
    · exact body_TooMany T hz hf hd q
    · exact body_BadSetting T hz hf hd q
    · exact body_BadCalls T hz hf hd q
def TTr (K : PySem.W.Frag) : (XK → Hp → VK → Prop) → (Hp → Prop) → V → Hp → VK → Prop := fun tl _ v2 H Q => ∃ (C : Addr) (z fl : Str) (v : V), ErrC K C z fl ∧ Leaf1 v ∧ (∃ t, v2 = .ref t ∧ H t = some (.tup [.str z, v])) ∧
  (∀ Q' : VK, tl (fun cls d H' => cls = .ref C ∧ ∃ d', d = some d' ∧ Same H H' ∧ H' d' = some (.xd [(fl, v)])) H Q') ∧ ∀ H', Same H H' → Q (.bl true) H'
theorem ErrC.seen (T : Txt w K mg) {C : Addr} {z fl : Str} (h : ErrC K C z fl) : PySem.W.exmOne K (.ref C) (.ref (He.ga K "SeenError")) = some true := by
  rcases h with ⟨rfl, _⟩ | ⟨rfl, _⟩ | ⟨rfl, _⟩
  · exact xs_TooMany T
  · exact xs_BadSetting T
  · exact xs_BadCalls T
theorem mt_pair {H : Hp} {a b : Addr} {z : Str} {v : V} (hv : Leaf1 v) (ha : H a = some (.tup [.str z, v])) (hb : H b = some (.tup [.str z, v])) : Mt 2 H (.ref a) (.ref b) := by
  refine .inr ⟨a, b, _, _, rfl, rfl, .inr ⟨ha, hb⟩, rfl, (by show 2 ≤ 1000; decide), fun i x y hx hy => ?_⟩
  rcases i with _ | _ | i
  · cases hx; cases hy; exact .inl (.inr ⟨_, rfl, rfl⟩)
  · cases hx; cases hy
    rcases hv with ⟨n, rfl⟩ | ⟨s, rfl⟩
    · exact .inl (.inl ⟨_, rfl, rfl⟩)
    · exact .inl (.inr ⟨_, rfl, rfl⟩)
  · cases hx
theorem refused_gives {X : Cx} (T : Txt X.w X.K X.mg) (hrX : Room 7 X.A) {g : Addr} {cdg : Value} {q : Str} : LamX.Gives3 X ["call", "due", "kept", "raised"] "_law_e_refused" (defScope s__law_e_refused) g cdg (defBody s__law_e_refused) "call" q (TTr X.K) := by
  intro f c' s H Q v2 tl hc hco h
  obtain ⟨C, z, fl, v, hC, hv, ⟨t, rfl, ht⟩, hl, k⟩ := h
  have hr := hrX.deeper (envOfC "_law_e_refused" (defScope s__law_e_refused) s.heap.objs.size g cdg)
  obtain ⟨fe, fde, FE, ge, ke, be⟩ := fe_error (P := X.prog) (base := X.base) T
  have ok__law_matches := fun (T : Txt X.w X.K X.mg) => ok_mt2 (P := X.prog) (base := X.base) T
  refine ⟨_, (pss_cons (ps_set (i := 2) sc__law_e_refused.nd rfl (by first | exact Or.inl rfl | exact Or.inr rfl) pe_non)
      (pss_cons (L2.ps_try_as (ts := fun a cls d => tAsg (tCallE (spErr X.K a cls d) (tCons (tVar 3) tNil)) (gName 2)) (i := 3) (c := .ref (He.ga X.K "SeenError")) rfl rfl sc__law_e_refused.nd rfl rfl ⟨rfl, by decide, .inl (g_SeenError T)⟩ LamX.takes0 (fun W pn xe tk _ => pss_one (ps_expr (hc W pn xe (fun cls d H' => cls = .ref C ∧ ∃ d', d = some d' ∧ Same H H' ∧ H' d' = some (.xd [(fl, v)])) _ _ tk))) (fun a oe cls d pn hz hf => pss_one (ps_set (i := 2) sc__law_e_refused.nd rfl (by first | exact Or.inl rfl | exact Or.inr rfl) (pe_callE (X := Cx.suite (Cx.nox (cxOf C8.CX0 X.prog X.w X.K X.mg X.base ["call", "due", "kept", "raised"] "_law_e_refused" (defScope s__law_e_refused) g cdg X.A X.stack s H C8.E0)) a ((a, oe) :: pn)) (x := "_law_e_error") (p := (a, oe)) FE (L2H.RoomH.mk (hr.mono (by decide : 1 ≤ 6)).dp (hr.mono (by decide : 1 ≤ 6)).un) List.mem_cons_self hz hf rfl ge ke be (pa_cons (pv 3) pa_nil)))))
      (pss_one (ps_ret (pe_and (pe_cmpR op_notN (pv 2) pe_non (nomark _)) (pe_one (pe_ok (ok__law_matches T) (hr.mono (by first | decide | omega)) rfl pass0 (pa_cons (pv 2) (pa_cons (pv 1) pa_nil))))))))), ?_⟩
  refine ⟨rfl, hco, fun cls d H' ⟨e1, d', e2, s2, hd⟩ => ?_, hl _⟩
  subst e1 e2
  refine ⟨true, hC.seen T, fun _ a ha => ⟨_, rfl, C, z, fl, d', v, hC, rfl, rfl, rfl, hd, fun t' H3 s3 ht' => ?_⟩, fun z => by cases z⟩
  exact ⟨_, rfl, rfl, _, rfl, iteT ⟨_, rfl, _, rfl, .ref t', .ref t, rfl, mt_pair hv ht' (s3 _ _ (s2 _ _ ht)), fun H4 s4 => k _ ((s2.trans s3).trans s4)⟩⟩
end
end K16
end
section
set_option maxRecDepth 100000
set_option maxHeartbeats 4000000
namespace K16
open PySem PySem.Spec PyProof.Rows L2
/-- the tables of the defs that make lambdas, the names of what they hold -/
def Tl (K : PySem.W.Frag) : List (Addr × Str) := tf.map fun p => ((He.cT K p).2, p.1 ++ (".<locals>.<lambda>" : Str))
theorem tl_one {w : World} {K : PySem.W.Frag} {mg : Str → Option Value} (T : Txt w K mg) {P : Addr} {q : Str} (h : (P, q) ∈ Tl K) : ∀ p ∈ Tl K, p.1 = P → p.2 = q := by
  have hn := tabs_nodup T
  have e : tf.map (fun p => (He.cT K p).2) = (Tl K).map (·.1) := by unfold Tl; rw [List.map_map]; rfl
  rw [e] at hn
  intro p hp e1
  have : ∀ (l : List (Addr × Str)), (l.map (·.1)).Nodup → ∀ a ∈ l, ∀ b ∈ l, a.1 = b.1 → a = b := by
    intro l
    induction l with
    | nil => intro _ a ha; cases ha
    | cons c r ih =>
      intro hn a ha b hb hab
      rw [List.map_cons, List.nodup_cons] at hn
      rcases List.mem_cons.mp ha with ea | ha
      · rcases List.mem_cons.mp hb with eb | hb
        · rw [ea, eb]
        · exact absurd (List.mem_map.mpr ⟨b, hb, by rw [← hab, ea]⟩) hn.1
      · rcases List.mem_cons.mp hb with eb | hb
        · exact absurd (List.mem_map.mpr ⟨a, ha, by rw [hab, eb]⟩) hn.1
        · exact ih hn.2 a ha b hb hab
  rw [this _ hn p hp (P, q) h e1]
abbrev TabsB (K : PySem.W.Frag) (base : Heap) (mg : Str → Option Value) : Prop := ∀ p ∈ tf, LamX.TabB base mg (He.cT K p).1 (He.cT K p).2
section
variable {X : Cx} {cc P : Addr} {params : Arguments} {body : Expr} {scope : Scope} {t : XK → TE} {p lpos pos : Pos} {e2 : Expr} {te : TE}
theorem pe_twice (T : Txt X.w X.K X.mg) (hr : Room 7 X.A) (hg : Gl X "_law_e_twice") (TB : LamX.TabB X.base X.mg cc P) (hcode : X.env.code = .ref cc) (hmT : (P, X.env.qual ++ "<lambda>") ∈ Tl X.K) (L : LamX.LamS X.env.scope scope) (hdef : defaultsOf params X.env = ([], []))
    (hbind : ∀ (q : Str) (cl : List (Str × Addr)) (pm cv ctv : Value), bindArgs (PySem.W.kla_fn "<lambda>" q params body scope cl pm cv ctv) ⟨[], []⟩ = pure [])
    (hbody : ∀ (A : Around) (outer : List Env) (s : Shared) (H : Hp) (E : XK) (f c' : Addr), Room 5 (A.deeper (LamX.lamEnv X scope s.heap.objs.size f c')) → PE (LamX.lamCx X A outer s H E scope f c') body (t E))
    (he2 : PA X [e2] (tCons te tNil))
    (hs : starEach [.Lambda params body scope lpos, e2] X.env = (false, eval (.Lambda params body scope lpos) X.env) :: starEach [e2] X.env := by rfl) (hpl : (backTo pos (starEach [e2] X.env)).any (·.1) = false := by rfl) :
    PE X (.Call (.Name "_law_e_twice" p) [.Lambda params body scope lpos, e2] [] pos) (LamX.tLam2 (Tl X.K) (X.env.qual ++ "<lambda>") TTw t te) := by
  obtain ⟨f, fd, F, g⟩ := f__law_e_twice T
  have B : L2.Binds X.K fd ["call", "due"] [] := F.bindsN (fun _ _ _ _ _ _ us hl => match us, hl with | [_, _], _ => rfl)
  obtain ⟨oc, od, dV, kV, doc, pm, an, cdv, ct, osl, rfl, lk, hcd, _, _⟩ := F.ex
  exact LamX.pe_lamcall3 (k := 5) hg g F.kp lk hcd B sc__law_e_twice rfl (by first | exact Or.inl rfl | exact Or.inr (Or.inl rfl) | exact Or.inr rfl) (twice_gives T hr).three TB hcode hmT (tl_one T hmT) hr L hdef hbind hbody he2 (by decide) (by decide) (by decide) hs hpl
theorem pe_refused (T : Txt X.w X.K X.mg) (hr : Room 7 X.A) (hg : Gl X "_law_e_refused") (TB : LamX.TabB X.base X.mg cc P) (hcode : X.env.code = .ref cc) (hmT : (P, X.env.qual ++ "<lambda>") ∈ Tl X.K) (L : LamX.LamS X.env.scope scope) (hdef : defaultsOf params X.env = ([], []))
    (hbind : ∀ (q : Str) (cl : List (Str × Addr)) (pm cv ctv : Value), bindArgs (PySem.W.kla_fn "<lambda>" q params body scope cl pm cv ctv) ⟨[], []⟩ = pure [])
    (hbody : ∀ (A : Around) (outer : List Env) (s : Shared) (H : Hp) (E : XK) (f c' : Addr), Room 5 (A.deeper (LamX.lamEnv X scope s.heap.objs.size f c')) → PE (LamX.lamCx X A outer s H E scope f c') body (t E))
    (he2 : PA X [e2] (tCons te tNil))
    (hs : starEach [.Lambda params body scope lpos, e2] X.env = (false, eval (.Lambda params body scope lpos) X.env) :: starEach [e2] X.env := by rfl) (hpl : (backTo pos (starEach [e2] X.env)).any (·.1) = false := by rfl) :
    PE X (.Call (.Name "_law_e_refused" p) [.Lambda params body scope lpos, e2] [] pos) (LamX.tLam2 (Tl X.K) (X.env.qual ++ "<lambda>") (TTr X.K) t te) := by
  obtain ⟨f, fd, F, g⟩ := f__law_e_refused T
  have B : L2.Binds X.K fd ["call", "due"] [] := F.bindsN (fun _ _ _ _ _ _ us hl => match us, hl with | [_, _], _ => rfl)
  obtain ⟨oc, od, dV, kV, doc, pm, an, cdv, ct, osl, rfl, lk, hcd, _, _⟩ := F.ex
  exact LamX.pe_lamcall3 (k := 5) hg g F.kp lk hcd B sc__law_e_refused rfl (by first | exact Or.inl rfl | exact Or.inr (Or.inl rfl) | exact Or.inr rfl) (refused_gives T hr) TB hcode hmT (tl_one T hmT) hr L hdef hbind hbody he2 (by decide) (by decide) (by decide) hs hpl
end
end K16
end
section
set_option maxRecDepth 100000
set_option maxHeartbeats 4000000
namespace K16
open PySem PySem.Spec PyProof.Rows L2
section
variable {P : Program} {w : World} {K : PySem.W.Frag} {mg : Str → Option Value} {base : Heap}
theorem ext_lst {H H' : Hp} {a : Addr} {xs : List V} (e : LamX.ExtN H H') (h : H a = some (.lst xs)) : H' a = some (.lst xs) := e _ _ h fun _ z => by cases z
theorem ext_tup {H H' : Hp} {a : Addr} {xs : List V} (e : LamX.ExtN H H') (h : H a = some (.tup xs)) : H' a = some (.tup xs) := e _ _ h fun _ z => by cases z
theorem ext_of {H H' : Hp} (e : Same H H') : LamX.ExtN H H' := fun b o h _ => e b o h
theorem DueAt.ext {H H' : Hp} {v : V} {d : Due} (e : LamX.ExtN H H') (h : DueAt H v d) : DueAt H' v d := by
  cases d with
  | nums ns => obtain ⟨l, rfl, h⟩ := h; exact ⟨l, rfl, ext_lst e h⟩
  | nev d => obtain ⟨t, rfl, h⟩ := h; exact ⟨t, rfl, ext_tup e h⟩
  | calls ns => obtain ⟨t, l, rfl, h1, h2, n⟩ := h; exact ⟨t, l, rfl, ext_tup e h1, ext_lst e h2, n⟩
theorem s_never : decide (V.str "never" = V.str "calls") = false := by decide +kernel
theorem s_calls : decide (V.str "calls" = V.str "never") = false := by decide +kernel
def dueOf (r : Int) (ns : List Int) : Due := if nev r 1 ns = 0 then .calls (grd r 0 1 ns) else .nev (nev r 1 ns)
theorem due_small {r : Int} {ns : List Int} (h : ns.length ≤ 1000) : (dueOf r ns).small := by
  unfold dueOf
  split
  · exact Nat.le_trans (grd_len r ns 0 1) h
  · trivial
theorem new_nev {r : Int} {ns : List Int} {H0 H : Hp} {v : V} (h : nev r 1 ns ≠ 0) (hv : NevR H v (nev r 1 ns)) : NewAt H0 H v (dueOf r ns) := by
  unfold dueOf
  rw [if_neg h]
  exact hv
theorem new_calls {r : Int} {ns : List Int} {H0 H : Hp} {v : V} (h : nev r 1 ns = 0) (hv : CallsR H0 H v (grd r 0 1 ns)) : NewAt H0 H v (dueOf r ns) := by
  unfold dueOf
  rw [if_pos h]
  exact hv
def spGood (K : PySem.W.Frag) : Sp := fun vs H Q _ => ∃ (a : Addr) (ns : List Int) (r : Int), vs = [.ref a, .int r] ∧ H a = some (.lst (ns.map V.int)) ∧ ns.length ≤ 24 ∧ 0 ≤ r ∧ LamX.Tabs (Tl K) H ∧ ∀ H', LamX.ExtN H H' → LamX.Tabs (Tl K) H' → Q (.bl true) H'
theorem ok__law_k16_good (T : Txt w K mg) (TB : TabsB K base mg) : Ok P w K mg base CX0 8 "_law_k16_good" ["needs", "reach"] (spGood K) := by
  refine Ok.defC (fl__law_k16_good T) (fun _ _ _ _ _ _ us hl => match us, hl with | [_, _], _ => rfl) sc__law_k16_good (fun vs H Q E h => ?_) (fun f A outer s H vs Q E hr h => ?_)
  · obtain ⟨a, ns, r, rfl, _⟩ := h
    rfl
  · obtain ⟨a, ns, r, rfl, ha, hn, hr0, hT, k⟩ := h
    refine ⟨_, (pss_cons (ps_set (i := 2) sc__law_k16_good.nd rfl (by first | exact Or.inl rfl | exact Or.inr rfl) (pe_callTy (list_ofK (K := K) rfl) rfl (n_list T) (by decide +kernel) (pa_cons (pv 0) pa_nil)))
      (pss_cons (ps_set (i := 3) sc__law_k16_good.nd rfl (by first | exact Or.inl rfl | exact Or.inr rfl) (pe_ok (ok__law_k16_visits T) (hr.mono (by first | decide | omega)) rfl pass0 (pa_cons (pv 0) (pa_cons (pv 1) pa_nil))))
      (pss_cons (ps_if (PW.pt (pw_or (pt_not (pt_val (pe_twice (cc := (He.cT K ("_law_k16_good", none)).1) (P := (He.cT K ("_law_k16_good", none)).2) T hr rfl (TB _ (List.mem_of_getElem? (i := 0) rfl)) rfl (List.mem_of_getElem? (i := 0) rfl) (LamX.lamS_by (by kernel_rfl)) rfl (fun _ _ _ _ _ => rfl) (fun A outer s H E f c' hr => (pe_ok (ok_fewest_visits T) (hr.mono (by first | decide | omega)) rfl passL (pa_cons (pv 2) (pa_cons (pv 1) pa_nil)))) (pa_cons (pv 3) pa_nil)))) (pw_or1 (pt_cmpR (neDK (K := K) rfl hr.units) (pv 2) (pv 0) (nomark _))))) (pss_one (ps_ret pe_bl)) pss_nil)
      (pss_cons (ps_if (pt_cmpR op_eq (pe_ix (ix_seqK (K := K) rfl) (pv 3) pe_int (fun _ _ => rfl)) pe_str (nomark _)) (pss_cons (ps_if (pt_not (pt_val (pe_ok (ok__law_k16_apart T) (hr.mono (by first | decide | omega)) rfl pass0 (pa_cons (pv 0) (pa_cons (pv 1) (pa_cons (pe_ix (ix_seqK (K := K) rfl) (pv 3) pe_int (fun _ _ => rfl)) pa_nil)))))) (pss_one (ps_ret pe_bl)) pss_nil)
      (pss_one (ps_if (pt_cmpR op_ne (pe_ok (ok__law_e_unserved T) (hr.mono (by first | decide | omega)) rfl pass0 (pa_cons (pv 0) (pa_cons (pe_lc (own := [("day", 4)]) rfl sc__law_k16_good.nd (pi_listK (K := K) rfl (pe_ix (ix_seqK (K := K) rfl) (pv 3) pe_int (fun _ _ => rfl))) (blkOk_by (N := ["needs", "reach", "given", "due", "day", "fewest"]) (sc := defScope s__law_k16_good) (by decide +kernel)) (fun _ _ _ _ _ => (pg_name (i := 4) sc__law_k16_good.nd rfl (by first | exact Or.inl rfl | exact Or.inr rfl))) (fun _ _ _ _ _ => pts_nil) (fun _ _ _ _ _ => (pe_tup (pa_cons (pv 4) (pa_cons (pv 1) pa_nil))))) pa_nil))) pe_int (nomark _)) (pss_one (ps_ret pe_bl)) pss_nil))) pss_nil)
      (pss_cons (ps_if (pt_cmpR op_le (pe_callB (len_seqK (K := K) rfl) rfl (n_len T) (by decide +kernel) (pa_cons (pv 0) pa_nil)) pe_int (nomark _)) (pss_cons (ps_set (i := 5) sc__law_k16_good.nd rfl (by first | exact Or.inl rfl | exact Or.inr rfl) (pe_ok (ok__law_k16_fewest T) (hr.mono (by first | decide | omega)) rfl pass0 (pa_cons (pv 0) (pa_cons (pv 1) pa_nil))))
      (pss_one (ps_if (PW.pt (pw_or (pt_cmpR op_ne (pe_cmpR op_eq (pe_ix (ix_seqK (K := K) rfl) (pv 3) pe_int (fun _ _ => rfl)) pe_str (nomark _)) (pe_cmpR op_isN (pv 5) pe_non (nomark _)) (nomark _)) (pw_or1 (PW.pt (pw_and (pt_cmpR op_notN (pv 5) pe_non (nomark _)) (pw_and1 (pt_cmpR op_ne (pe_callB (len_seqK (K := K) rfl) rfl (n_len T) (by decide +kernel) (pa_cons (pe_ix (ix_seqK (K := K) rfl) (pv 3) pe_int (fun _ _ => rfl)) pa_nil)) (pv 5) (nomark _)))))))) (pss_one (ps_ret pe_bl)) pss_nil))) pss_nil)
      (pss_one (ps_ret (pe_and (pe_twice (cc := (He.cT K ("_law_k16_good", none)).1) (P := (He.cT K ("_law_k16_good", none)).2) T hr rfl (TB _ (List.mem_of_getElem? (i := 0) rfl)) rfl (List.mem_of_getElem? (i := 0) rfl) (LamX.lamS_by (by kernel_rfl)) rfl (fun _ _ _ _ _ => rfl) (fun A outer s H E f c' hr => (pe_ok (ok_record_days T) (hr.mono (by first | decide | omega)) rfl passL (pa_cons (pv 2) pa_nil))) (pa_cons (pe_ok (ok__law_e_records T) (hr.mono (by first | decide | omega)) rfl pass0 (pa_cons (pv 0) pa_nil)) pa_nil)) (pe_one (pe_cmpR (eqDK (K := K) rfl hr.units) (pv 2) (pv 0) (nomark _))))))))))), ?_⟩
    refine ⟨_, rfl, a, _, rfl, .inl (SqL.of ha), fun g hg => ?_⟩
    obtain ⟨e1, hg1⟩ := new2 (.lst (ns.map V.int)) hg
    refine nxE (st_let (fun v H2 => Same (upd H g (.lst (ns.map V.int))) H2 ∧ NewAt (upd H g (.lst (ns.map V.int))) H2 v (dueOf r ns)) (fun R hR => ?_) (fun v H2 hv => ?_))
    · exact ⟨_, rfl, _, rfl, a, ns, r, rfl, SqL.of (e1 _ _ ha), by omega, fun h v H' s' hv => hR _ _ ⟨s', new_nev h hv⟩, fun h v H' s' hv => hR _ _ ⟨s', new_calls h hv⟩⟩
    obtain ⟨s2, hv⟩ := hv
    have e2 := e1.trans s2
    have hdue : DueAt H2 v (dueOf r ns) := hv.due
    have T2 : LamX.Tabs (Tl K) H2 := hT.ext e2
    have ha2 := e2 _ _ ha
    have hg2 := s2 _ _ hg1
    refine ⟨T2, fun H3 c' e3 T3 hc => ⟨_, rfl, v, rfl, hc, dueOf r ns, due_small (by omega), ?_, fun H4 Q' s4 q => ?_, fun H4 s4 => ⟨_, rfl, iteF ?_⟩⟩⟩
    · exact hdue.ext e3
    · refine ⟨_, rfl, _, rfl, g, ns, r, rfl, SqL.of (s4 _ _ (ext_lst e3 hg2)), by omega, (fun z => by omega), (fun _ z => by omega), fun _ _ h v' H' s' hv' => q _ _ s' (new_nev h hv'), fun _ _ h v' H' s' hv' => q _ _ s' (new_calls h hv')⟩
    have e4 := e3.trans (ext_of s4)
    have ha4 := ext_lst e4 ha2
    have hg4 := ext_lst e4 hg2
    refine ⟨_, rfl, _, rfl, _, _, dp_ints (SqL.of hg4), dp_ints (SqL.of ha4), shaped_nums _, shaped_nums _, _, rfl, ?_⟩
    rw [eqv_self (shaped_nums ns)]
    refine iteF ?_
    have hd4 : (nev r 1 ns = 0 ∧ ∃ t l, v = .ref t ∧ H4 t = some (.tup [.str "calls", .ref l]) ∧ H4 l = some (.lst ((grd r 0 1 ns).map V.int))) ∨ (nev r 1 ns ≠ 0 ∧ ∃ t, v = .ref t ∧ H4 t = some (.tup [.str "never", .int (nev r 1 ns)])) := by
      have h := hdue.ext e4
      unfold dueOf at h
      split at h
      · rename_i h0
        obtain ⟨t, l, e, h1, h2, _⟩ := h
        exact .inl ⟨h0, t, l, e, h1, h2⟩
      · rename_i h0
        obtain ⟨t, e, h1⟩ := h
        exact .inr ⟨h0, t, e, h1⟩
    have gl : (grd r 0 1 ns).length ≤ 24 := Nat.le_trans (grd_len r ns 0 1) hn
    refine nxE (seq_via (fun σ' H5 => ∃ v4, σ' = [some (.ref a), some (.int r), some (.ref g), some v, v4, none] ∧ Same H4 H5) (fun U hU => ?_) ?_)
    · rcases hd4 with ⟨h0, t, l, rfl, ht, hl⟩ | ⟨h0, t, rfl, ht⟩
      · refine ⟨_, rfl, .inr (.inl ⟨t, _, 0, _, rfl, rfl, SqT.of ht, rfl, rfl, _, rfl, ?_⟩)⟩
        rw [decide_eq_true rfl]
        refine iteT ⟨_, rfl, _, rfl, _, rfl, .inr (.inl ⟨t, _, 1, _, rfl, rfl, SqT.of ht, rfl, a, l, ns, _, r, rfl, SqL.of ha4, SqL.of hl, by omega, grd_apart, ⟨_, rfl, iteF ?_⟩⟩)⟩
        refine ⟨_, rfl, _, rfl, .inr (.inl ⟨t, _, 1, _, rfl, rfl, SqT.of ht, rfl, l, rfl, ⟨_, SqL.of hl⟩, fun D hD => lc_acc (K := K) (a := l) (xs := (grd r 0 1 ns).map V.int) hD (SqL.of hl) (by rw [ints_len]; omega) (fun j acc H2 => PairsD K D H2 acc (((grd r 0 1 ns).take j).map fun d => (d, r))) (fun _ _ => .nil) ?_ ?_⟩)⟩
        · rintro j x acc H2 N N0 hx2 s2 hacc hP hN hN0
          obtain ⟨d, hd, rfl⟩ := ints_get hx2
          refine ⟨rfl, ?_⟩
          refine ⟨_, rfl, _, rfl, (by show 2 ≤ sizeLine; decide), fun p hp => ?_⟩
          have s3 : Same H2 (upd H2 p (.tup [V.int d, V.int r])) := same_new hp
          have hpD : p ≠ D := fun z => by rw [z, hacc] at hp; cases hp
          refine hN _ _ s3 fun H5 b5 _ => ?_
          rw [take_get hd, List.map_append]
          exact paired_snoc ((PairsD.same s3 hP).but b5) ⟨⟨p, rfl, .inl (b5.tup hpD (SqT.of upd_same))⟩, fun z => hpD (V.ref.inj z)⟩
        · rintro acc H5 s5 hacc hal hP
          rw [ints_len, List.take_length] at hP
          rw [ints_len] at hal
          refine ⟨a, D, ns, acc, _, rfl, SqL.of (s5 _ _ ha4), SqL.of hacc, hP.prs, by omega, by omega, fun H6 s6 => ⟨rfl, _, rfl, ?_⟩⟩
          have hz : uns ((grd r 0 1 ns).map fun d => (d, r)) 1 ns = 0 := grd_srv h0
          rw [hz, decide_eq_true rfl]
          exact iteF (hU _ _ ⟨_, rfl, s5.trans s6⟩)
      · refine ⟨_, rfl, .inr (.inl ⟨t, _, 0, _, rfl, rfl, SqT.of ht, rfl, rfl, _, rfl, ?_⟩)⟩
        rw [s_never]
        exact iteF (hU _ _ ⟨_, rfl, Same.refl _⟩)
    rintro σ5 H5 ⟨v4, rfl, s5⟩
    have ha5 := s5 _ _ ha4
    have hg5 := s5 _ _ hg4
    refine seq_via (fun σ' H6 => ∃ v4 v5, σ' = [some (.ref a), some (.int r), some (.ref g), some v, v4, v5] ∧ Same H5 H6) (fun U hU => ?_) ?_
    · refine ⟨_, rfl, _, _, rfl, .inl (SqL.of ha5), _, _, rfl, rfl, _, rfl, ?_⟩
      rw [ints_len]
      refine ite2 (fun c => ?_) (fun c => ?_)
      · have c := of_decide_eq_true c
        refine ⟨_, rfl, _, rfl, a, ns, r, rfl, SqL.of ha5, by omega, fun v5 H6 s6 hI => ?_⟩
        obtain ⟨f1, f2⟩ := few_is hI
        rcases hd4 with ⟨h0, t, l, rfl, ht, hl⟩ | ⟨h0, t, rfl, ht⟩
        · have hv5 := f2 h0
          subst hv5
          have ht6 := s6 _ _ (s5 _ _ ht)
          have hl6 := s6 _ _ (s5 _ _ hl)
          refine ⟨_, rfl, .inr (.inl ⟨t, _, 0, _, rfl, rfl, SqT.of ht6, rfl, rfl, _, rfl, rfl, rfl, _, rfl, ?_⟩)⟩
          rw [s_calls]
          refine iteF ⟨_, rfl, rfl, _, rfl, iteT ⟨_, rfl, .inr (.inl ⟨t, _, 1, _, rfl, rfl, SqT.of ht6, rfl, _, _, rfl, .inl (SqL.of hl6), _, rfl, rfl, _, rfl, ?_⟩)⟩⟩
          rw [ints_len, decide_eq_true rfl]
          exact iteF (hU _ _ ⟨_, _, rfl, s6⟩)
        · have hv5 := f1 h0
          subst hv5
          have ht6 := s6 _ _ (s5 _ _ ht)
          refine ⟨_, rfl, .inr (.inl ⟨t, _, 0, _, rfl, rfl, SqT.of ht6, rfl, rfl, _, rfl, rfl, rfl, _, rfl, ?_⟩)⟩
          rw [decide_eq_true rfl]
          exact iteF ⟨_, rfl, rfl, _, rfl, iteF (hU _ _ ⟨_, _, rfl, s6⟩)⟩
      · exact hU _ _ ⟨_, _, rfl, Same.refl _⟩
    rintro σ6 H6 ⟨v4, v5, rfl, s6⟩
    have ha6 := s6 _ _ ha5
    have hg6 := s6 _ _ hg5
    have T6 : LamX.Tabs (Tl K) H6 := (T3.ext s4).ext (s5.trans s6)
    have e6 : LamX.ExtN H H6 := ((ext_of e2).trans e4).trans (ext_of (s5.trans s6))
    refine ⟨T6, fun H7 c2 e7 T7 hc2 => ⟨_, rfl, a, ns, rfl, ext_lst e7 ha6, by omega, fun v8 H8 s8 h8 => ⟨v8, rfl, s8 _ _ hc2, .nums (recs 1 0 ns), Nat.le_trans (recs_len ns 1 0) (by omega), NewAt.due (d := .nums (recs 1 0 ns)) h8, fun H9 Q' s9 q => ?_, fun H9 s9 => ⟨_, rfl, iteT ?_⟩⟩⟩⟩
    · exact ⟨_, rfl, g, ns, rfl, SqL.of (s9 _ _ (s8 _ _ (ext_lst e7 hg6))), by omega, (fun z => by omega), fun _ v' H' s' hv' => q _ _ s' hv'⟩
    · have s := s8.trans s9
      refine ⟨_, rfl, _, rfl, _, _, dp_ints (SqL.of (s _ _ (ext_lst e7 hg6))), dp_ints (SqL.of (s _ _ (ext_lst e7 ha6))), shaped_nums _, shaped_nums _, ?_⟩
      rw [eqv_self (shaped_nums ns)]
      exact k _ ((e6.trans e7).trans (ext_of s)) (T7.ext s)
end
end K16
end
section
set_option maxRecDepth 100000
set_option maxHeartbeats 4000000
namespace K16
open PySem PySem.Spec PyProof.Rows L2
/-! ### all but the stock and the tables -/
def Bx (sa : Addr) (H H' : Hp) : Prop := ∀ b o, H b = some o → (∀ ps, o ≠ .tbl ps) → b ≠ sa → H' b = some o
theorem Bx.of_but {sa : Addr} {H H' : Hp} (e : But sa H H') : Bx sa H H' := fun b o h _ n => e b o h n
theorem Bx.of_same {sa : Addr} {H H' : Hp} (e : Same H H') : Bx sa H H' := fun b o h _ _ => e b o h
theorem Bx.of_ext {sa : Addr} {H H' : Hp} (e : LamX.ExtN H H') : Bx sa H H' := fun b o h n _ => e b o h n
theorem Bx.trans {sa : Addr} {H H1 H2 : Hp} (a : Bx sa H H1) (b : Bx sa H1 H2) : Bx sa H H2 := fun c o h n m => b c o (a c o h n m) n m
theorem Bx.lst {sa : Addr} {H H' : Hp} {a : Addr} {xs : List V} (e : Bx sa H H') (n : a ≠ sa) (h : H a = some (.lst xs)) : H' a = some (.lst xs) := e _ _ h (fun _ z => by cases z) n
theorem Bx.tup {sa : Addr} {H H' : Hp} {a : Addr} {xs : List V} (e : Bx sa H H') (n : a ≠ sa) (h : H a = some (.tup xs)) : H' a = some (.tup xs) := e _ _ h (fun _ z => by cases z) n
theorem tabs_but {sa : Addr} {H H' : Hp} {Tb : List (Addr × Str)} (h : LamX.Tabs Tb H) (hs : Stk H sa) (e : But sa H H') : LamX.Tabs Tb H' := fun p hp => by
  obtain ⟨ps, hP, ht, hc⟩ := h p hp
  have hne : p.1 ≠ sa := fun z => by
    obtain ⟨x, y, w, hs⟩ := hs
    rw [z, hs] at hP
    cases hP
  exact ⟨ps, e _ _ hP hne, ht, fun pos cv q => by
    obtain ⟨c, h1, h2⟩ := hc pos cv q
    have hc : c ≠ sa := fun z => by
      obtain ⟨x, y, w, hs⟩ := hs
      rw [z, hs] at h2
      cases h2
    exact ⟨c, h1, e _ _ h2 hc⟩⟩
/-! ### rows of calls, each a tuple -/
def PairT (H : Hp) (x : V) (c : Int × Int) : Prop := ∃ t, x = .ref t ∧ H t = some (.tup [.int c.1, .int c.2])
def VC (T : Int) (c : Int × Int) : Prop := 1 ≤ c.1 ∧ c.1 ≤ T ∧ 0 ≤ c.2 ∧ c.2 < 2000000000
theorem ne_stk {H : Hp} {sa t : Addr} {o : HO} (hs : Stk H sa) (h : H t = some o) (n : ∀ xs, o ≠ .lst xs) : t ≠ sa := fun z => by
  obtain ⟨x, y, w, hs⟩ := hs
  rw [z, hs] at h
  exact n _ (Option.some.inj h).symm
theorem PairT.bx {sa : Addr} {H H' : Hp} (hs : Stk H sa) (e : Bx sa H H') {x : V} {c : Int × Int} (h : PairT H x c) : PairT H' x c := by
  obtain ⟨t, rfl, h⟩ := h
  exact ⟨t, rfl, e.tup (ne_stk hs h fun _ z => by cases z) h⟩
theorem PairT.same {H H' : Hp} (e : Same H H') {x : V} {c : Int × Int} (h : PairT H x c) : PairT H' x c := by
  obtain ⟨t, rfl, h⟩ := h
  exact ⟨t, rfl, e _ _ h⟩
theorem PairT.mut {H : Hp} {l : Addr} {xs : List V} {o : HO} (hl : H l = some (.lst xs)) {x : V} {c : Int × Int} (h : PairT H x c) : PairT (upd H l o) x c := by
  obtain ⟨t, rfl, h⟩ := h
  refine ⟨t, rfl, ?_⟩
  rw [upd_ne (fun z => by rw [z, hl] at h; cases h)]
  exact h
theorem PairT.r {K : PySem.W.Frag} {H : Hp} {x : V} {c : Int × Int} (h : PairT H x c) : PairR K H x c := by
  obtain ⟨t, rfl, h⟩ := h
  exact ⟨t, rfl, .inl (SqT.of h)⟩
def RowA (T : Int) (sa : Addr) (H : Hp) (v : V) : Prop := ∃ (lr : Addr) (xs : List V) (cs : List (Int × Int)), v = .ref lr ∧ lr ≠ sa ∧ H lr = some (.lst xs) ∧ Paired (PairT H) xs cs ∧ cs.length ≤ 60 ∧ ∀ c ∈ cs, VC T c
theorem RowA.bx {T : Int} {sa : Addr} {H H' : Hp} {v : V} (hs : Stk H sa) (e : Bx sa H H') (h : RowA T sa H v) : RowA T sa H' v := by
  obtain ⟨lr, xs, cs, rfl, n, h1, h2, h3⟩ := h
  exact ⟨lr, xs, cs, rfl, n, e.lst n h1, Paired.mapP h2 fun _ _ z => z.bx hs e, h3⟩
theorem RowA.mut {T : Int} {sa : Addr} {H : Hp} {lr l : Addr} {ws : List V} {o : HO} (hl : H l = some (.lst ws)) (n : lr ≠ l) (h : RowA T sa H (.ref lr)) : RowA T sa (upd H l o) (.ref lr) := by
  obtain ⟨lr', xs, cs, e, n', h1, h2, h3⟩ := h
  cases e
  exact ⟨lr, xs, cs, rfl, n', by rw [upd_ne n]; exact h1, Paired.mapP h2 fun _ _ z => z.mut hl, h3⟩
theorem paired_mem {α β : Type} {R : α → β → Prop} {xs : List α} {ys : List β} (h : Paired R xs ys) {x : α} (hx : x ∈ xs) : ∃ y ∈ ys, R x y := by
  induction h with
  | nil => cases hx
  | cons a _ ih =>
    rcases List.mem_cons.mp hx with rfl | hx
    · exact ⟨_, List.mem_cons_self, a⟩
    · obtain ⟨y, hy, r⟩ := ih hx
      exact ⟨y, List.mem_cons_of_mem _ hy, r⟩
theorem paired_build {α β : Type} {R : α → β → Prop} {S : β → Prop} : ∀ (xs : List α), (∀ x ∈ xs, ∃ y, R x y ∧ S y) → ∃ ys, Paired R xs ys ∧ ∀ y ∈ ys, S y
  | [], _ => ⟨[], .nil, fun y hy => by cases hy⟩
  | x :: t, h => by
    obtain ⟨y, r, s⟩ := h x List.mem_cons_self
    obtain ⟨ys, rs, ss⟩ := paired_build t fun z hz => h z (List.mem_cons_of_mem _ hz)
    refine ⟨y :: ys, .cons r rs, fun z hz => ?_⟩
    rcases List.mem_cons.mp hz with rfl | hz
    · exact s
    · exact ss z hz
theorem paired_drop {α β : Type} {R : α → β → Prop} : ∀ (k : Nat) {xs : List α} {ys : List β}, Paired R xs ys → Paired R (xs.drop k) (ys.drop k)
  | 0, _, _, h => h
  | k + 1, _, _, .nil => .nil
  | k + 1, _, _, .cons a r => paired_drop k r
theorem paired_take {α β : Type} {R : α → β → Prop} : ∀ (k : Nat) {xs : List α} {ys : List β}, Paired R xs ys → Paired R (xs.take k) (ys.take k)
  | 0, _, _, _ => .nil
  | k + 1, _, _, .nil => .nil
  | k + 1, _, _, .cons a r => .cons a (paired_take k r)
theorem grd_mem {r : Int} {ns : List Int} {y : Int} (h : y ∈ grd r 0 1 ns) : 1 ≤ y ∧ y ≤ ns.length := by
  obtain ⟨_, hm⟩ := grd_chain (r := r) (ns := ns) ns 1 0 (by omega) (fun j n h => by
    have e : (1 + (j : Int) - 1).toNat = j := by omega
    rw [e]; exact h)
  obtain ⟨h1, n, hn, _⟩ := hm y h
  have := (List.getElem?_eq_some_iff.mp hn).1
  omega
/-- what given holds: pairs, each a list or a tuple -/
def PairG (D sa : Addr) (H : Hp) (y : V) (g : G3) : Prop := ∃ t, y = .ref t ∧ t ≠ D ∧ t ≠ sa ∧ H t = some (if g.1 = true then .lst [.int g.2.1, .int g.2.2] else .tup [.int g.2.1, .int g.2.2])
theorem PairG.bx {D sa : Addr} {H H' : Hp} (e : Bx sa H H') {y : V} {g : G3} (h : PairG D sa H y g) : PairG D sa H' y g := by
  obtain ⟨t, rfl, n1, n2, h⟩ := h
  refine ⟨t, rfl, n1, n2, e _ _ h (fun ps z => ?_) n2⟩
  split at z <;> cases z
theorem PairG.butD {D sa : Addr} {H H' : Hp} (e : But D H H') {y : V} {g : G3} (h : PairG D sa H y g) : PairG D sa H' y g := by
  obtain ⟨t, rfl, n1, n2, h⟩ := h
  exact ⟨t, rfl, n1, n2, e _ _ h n1⟩
def prj (g : G3) : Int × Int := (g.2.1, g.2.2)
theorem PairG.r {K : PySem.W.Frag} {D sa : Addr} {H : Hp} {y : V} {g : G3} (h : PairG D sa H y g) : PairR K H y (prj g) := by
  obtain ⟨t, rfl, n1, n2, h⟩ := h
  refine ⟨t, rfl, ?_⟩
  split at h
  · exact .inr (SqL.of h)
  · exact .inl (SqT.of h)
theorem PairG.dp {K : PySem.W.Frag} {D sa : Addr} {H : Hp} {y : V} {g : G3} (h : PairG D sa H y g) : Dp K H y (dG g) := by
  obtain ⟨t, rfl, n1, n2, h⟩ := h
  unfold dG
  split at h
  · rename_i hg
    rw [if_pos hg]
    exact .lst (SqL.of h) (.cons (.int _) (.cons (.int _) .nil))
  · rename_i hg
    rw [if_neg hg]
    exact .tup (SqT.of h) (.cons (.int _) (.cons (.int _) .nil))
theorem dpall_of {K : PySem.W.Frag} {D sa : Addr} {H : Hp} {ys : List V} {gs : List G3} (h : Paired (PairG D sa H) ys gs) : DpAll K H ys (gs.map dG) := by
  induction h with
  | nil => exact .nil
  | cons a _ ih => exact .cons a.dp ih
theorem prs_of {K : PySem.W.Frag} {D sa : Addr} {H : Hp} {ys : List V} {gs : List G3} (h : Paired (PairG D sa H) ys gs) : PairsR K H ys (gs.map prj) := by
  induction h with
  | nil => exact .nil
  | cons a _ ih => exact .cons a.r ih
theorem dp_datG {K : PySem.W.Frag} {D sa : Addr} {H : Hp} {ys : List V} {gs : List G3} (hD : H D = some (.lst ys)) (h : Paired (PairG D sa H) ys gs) : Dp K H (.ref D) (datG gs) := .lst (SqL.of hD) (dpall_of h)
theorem VC.sm {T : Int} {gs : List G3} (hT : T ≤ 24) (h : ∀ c ∈ gs.map prj, VC T c) : ∀ g ∈ gs, Sm g.2.1 ∧ Sm g.2.2 := fun g hg => by
  have := h _ (List.mem_map.mpr ⟨g, hg, rfl⟩)
  unfold VC prj at this
  unfold Sm
  omega
theorem VC.good {T : Int} {cs : List (Int × Int)} (h : ∀ c ∈ cs, VC T c) : ∀ k, fbad T k cs = 0 ∨ cs = [] ∧ True := by
  intro k
  by_cases z : cs = []
  · exact .inr ⟨z, trivial⟩
  · refine .inl ?_
    clear z
    induction cs generalizing k with
    | nil => rfl
    | cons c r ih =>
      unfold fbad
      have hc := h c List.mem_cons_self
      unfold VC at hc
      rw [if_neg (by simp [badC]; omega)]
      exact ih (fun d hd => h d (List.mem_cons_of_mem _ hd)) _
theorem fbad_good {T : Int} {cs : List (Int × Int)} (h : ∀ c ∈ cs, VC T c) (k : Int) : fbad T k cs = 0 := by
  rcases VC.good h k with h | ⟨h, _⟩
  · exact h
  · rw [h]; rfl
section
variable {P : Program} {w : World} {K : PySem.W.Frag} {mg : Str → Option Value} {base : Heap}
def spServedL (K : PySem.W.Frag) : Sp := fun vs H Q _ => ∃ (sa a : Addr) (ns : List Int), vs = [.ref sa, .ref a] ∧ Stk H sa ∧ a ≠ sa ∧ H a = some (.lst (ns.map V.int)) ∧ 1 ≤ ns.length ∧ ns.length ≤ 24 ∧ (∀ n ∈ ns, 0 ≤ n ∧ n ≤ ns.length) ∧ LamX.Tabs (Tl K) H ∧ ∀ H', Bx sa H H' → LamX.Tabs (Tl K) H' → Q (.bl true) H'
theorem ok__law_k16_served (T : Txt w K mg) (TB : TabsB K base mg) : OkG P w K mg base 8 "_law_k16_served" ["stock", "needs"] (spServedL K) := by
  refine OkG.defC (fl__law_k16_served T) (fun _ _ _ _ _ _ us hl => match us, hl with | [_, _], _ => rfl) sc__law_k16_served (fun vs H Q E h => ?_) (fun f A outer s H vs Q hr hgd h => ?_)
  · obtain ⟨sa, a, ns, rfl, _⟩ := h
    rfl
  · obtain ⟨sa, a, ns, rfl, hs, hsa, ha, hn1, hn, hb, hT, k⟩ := h
    let E : XK := E0
    have ok__law_matches := fun (T : Txt w K mg) => ok_mt0 (P := P) (base := base) T
    refine ⟨_, (pss_cons (ps_set (i := 2) sc__law_k16_served.nd rfl (by first | exact Or.inl rfl | exact Or.inr rfl) (pe_callB (len_seqK (K := K) rfl) rfl (n_len T) (by decide +kernel) (pa_cons (pv 1) pa_nil)))
      (pss_cons (ps_set (i := 3) sc__law_k16_served.nd rfl (by first | exact Or.inl rfl | exact Or.inr rfl) (pe_lst pa_nil))
      (pss_cons (ps_for PassesOwn.never rfl (pi_range1 rfl (n_range T) (pa_cons (pe_ok (ok__law_draw T) (hr.mono (by first | decide | omega)) rfl pass0 (pa_cons (pv 0) (pa_cons pe_int pa_nil))) pa_nil)) (pg_name (i := 4) sc__law_k16_served.nd rfl (by first | exact Or.inl rfl | exact Or.inr rfl))
        (pss_cons (ps_set (i := 5) sc__law_k16_served.nd rfl (by first | exact Or.inl rfl | exact Or.inr rfl) (pe_ifExp (pt_cmpR op_gt (pe_ok (ok__law_draw T) (hr.mono (by first | decide | omega)) rfl pass0 (pa_cons (pv 0) (pa_cons pe_int pa_nil))) pe_int (nomark _)) (pe_ok (ok__law_draw T) (hr.mono (by first | decide | omega)) rfl pass0 (pa_cons (pv 0) (pa_cons pe_int pa_nil))) (pe_op op_add (pv 2) (pe_ok (ok__law_draw T) (hr.mono (by first | decide | omega)) rfl pass0 (pa_cons (pv 0) (pa_cons (pe_op op_pow pe_int pe_int) pa_nil))))))
      (pss_one (ps_expr (pe_bm PySem.F.plainAttrs_list PySem.F.slot_list_append PySem.F.type_list_append mt_append (pv 3) (pa_cons (pe_tup (pa_cons (pe_op op_add pe_int (pe_ok (ok__law_draw T) (hr.mono (by first | decide | omega)) rfl pass0 (pa_cons (pv 0) (pa_cons (pv 2) pa_nil)))) (pa_cons (pv 5) pa_nil))) pa_nil))))))
      (pss_cons (ps_set (i := 5) sc__law_k16_served.nd rfl (by first | exact Or.inl rfl | exact Or.inr rfl) (pe_ok (ok__law_draw T) (hr.mono (by first | decide | omega)) rfl pass0 (pa_cons (pv 0) (pa_cons pe_int pa_nil))))
      (pss_cons (ps_set (i := 6) sc__law_k16_served.nd rfl (by first | exact Or.inl rfl | exact Or.inr rfl) (pe_ok (ok__law_k16_visits T) (hr.mono (by first | decide | omega)) rfl pass0 (pa_cons (pv 1) (pa_cons (pv 5) pa_nil))))
      (pss_cons (ps_set (i := 7) sc__law_k16_served.nd rfl (by first | exact Or.inl rfl | exact Or.inr rfl) (pe_lst (pa_cons (pv 3) (pa_cons (pe_lst pa_nil) pa_nil))))
      (pss_cons (ps_if (pt_cmpR op_eq (pe_ix (ix_seqK (K := K) rfl) (pv 6) pe_int (fun _ _ => rfl)) pe_str (nomark _)) (pss_cons (ps_set (i := 9) sc__law_k16_served.nd rfl (by first | exact Or.inl rfl | exact Or.inr rfl) (pe_ok (ok__law_mix T) (hr.mono (by first | decide | omega)) rfl pass0 (pa_cons (pv 0) (pa_cons (pe_lc (own := [("day", 8)]) rfl sc__law_k16_served.nd (pi_listK (K := K) rfl (pe_ix (ix_seqK (K := K) rfl) (pv 6) pe_int (fun _ _ => rfl))) (blkOk_by (N := ["stock", "needs", "days", "calls", "turn", "reach", "told", "lists", "day", "good", "row", "call", "given", "copy", "due", "sights"]) (sc := defScope s__law_k16_served) (by decide +kernel)) (fun _ _ _ _ _ => (pg_name (i := 8) sc__law_k16_served.nd rfl (by first | exact Or.inl rfl | exact Or.inr rfl))) (fun _ _ _ _ _ => pts_nil) (fun _ _ _ _ _ => (pe_tup (pa_cons (pv 8) (pa_cons (pv 5) pa_nil))))) pa_nil))))
      (pss_cons (ps_expr (pe_bm PySem.F.plainAttrs_list PySem.F.slot_list_append PySem.F.type_list_append mt_append (pv 7) (pa_cons (pv 9) pa_nil)))
      (pss_one (ps_if (pt_cmpR op_gt (pe_callB (len_seqK (K := K) rfl) rfl (n_len T) (by decide +kernel) (pa_cons (pv 9) pa_nil)) pe_int (nomark _)) (pss_one (ps_expr (pe_bm PySem.F.plainAttrs_list PySem.F.slot_list_append PySem.F.type_list_append mt_append (pv 7) (pa_cons (pe_op op_cat (pe_slice (sl_listK (K := K) rfl) (pv 9) (po_some pe_int) po_none) (pe_slice (sl_listK (K := K) rfl) (pv 3) po_none (po_some pe_int))) pa_nil)))) pss_nil)))) pss_nil)
      (pss_cons (ps_for PassesOwn.never rfl (pi_listK (K := K) rfl (pv 7)) (pg_name (i := 10) sc__law_k16_served.nd rfl (by first | exact Or.inl rfl | exact Or.inr rfl))
        (pss_cons (ps_set (i := 12) sc__law_k16_served.nd rfl (by first | exact Or.inl rfl | exact Or.inr rfl) (pe_lc (own := [("call", 11)]) rfl sc__law_k16_served.nd (pi_listK (K := K) rfl (pv 10)) (blkOk_by (N := ["stock", "needs", "days", "calls", "turn", "reach", "told", "lists", "day", "good", "row", "call", "given", "copy", "due", "sights"]) (sc := defScope s__law_k16_served) (by decide +kernel)) (fun _ _ _ _ _ => (pg_name (i := 11) sc__law_k16_served.nd rfl (by first | exact Or.inl rfl | exact Or.inr rfl))) (fun _ _ _ _ _ => pts_nil) (fun _ _ _ _ _ => (pe_ifExp (pt_cmpR op_eq (pe_ok (ok__law_draw T) (hr.mono (by first | decide | omega)) rfl pass0 (pa_cons (pv 0) (pa_cons pe_int pa_nil))) pe_int (nomark _)) (pe_callTy (list_ofK (K := K) rfl) rfl (n_list T) (by decide +kernel) (pa_cons (pv 11) pa_nil)) (pv 11)))))
      (pss_cons (ps_set (i := 13) sc__law_k16_served.nd rfl (by first | exact Or.inl rfl | exact Or.inr rfl) (pe_callB (call_reprD hr hgd) rfl (n_repr T) (by decide +kernel) (pa_cons (pv 12) pa_nil)))
      (pss_cons (ps_set (i := 14) sc__law_k16_served.nd rfl (by first | exact Or.inl rfl | exact Or.inr rfl) (pe_ok (ok__law_e_unserved T) (hr.mono (by first | decide | omega)) rfl pass0 (pa_cons (pv 1) (pa_cons (pv 10) pa_nil))))
      (pss_cons (ps_set (i := 15) sc__law_k16_served.nd rfl (by first | exact Or.inl rfl | exact Or.inr rfl) (pe_ok (ok__law_k16_sights T) (hr.mono (by first | decide | omega)) rfl pass0 (pa_cons (pv 2) (pa_cons (pv 10) pa_nil))))
      (pss_cons (ps_if (pt_cmpR op_ne (pe_cmpR op_eq (pv 14) pe_int (nomark _)) (pe_cmpR op_eq (pe_callB (len_seqK (K := K) rfl) rfl (n_len T) (by decide +kernel) (pa_cons (pe_lc (own := [("day", 8)]) rfl sc__law_k16_served.nd (pi_range1 rfl (n_range T) (pa_cons (pv 2) pa_nil)) (blkOk_by (N := ["stock", "needs", "days", "calls", "turn", "reach", "told", "lists", "day", "good", "row", "call", "given", "copy", "due", "sights"]) (sc := defScope s__law_k16_served) (by decide +kernel)) (fun _ _ _ _ _ => (pg_name (i := 8) sc__law_k16_served.nd rfl (by first | exact Or.inl rfl | exact Or.inr rfl))) (fun _ _ _ _ _ => pts_one (pt_cmpR op_lt (pe_ix (ix_seqK (K := K) rfl) (pv 15) (pv 8) (fun _ _ => rfl)) (pe_ix (ix_listK (K := K) rfl) (pv 1) (pv 8) (fun _ _ => rfl)) (nomark _))) (fun _ _ _ _ _ => (pv 8))) pa_nil)) pe_int (nomark _)) (nomark _)) (pss_one (ps_ret pe_bl)) pss_nil)
      (pss_cons (ps_for PassesOwn.never rfl (pi_range1 rfl (n_range T) (pa_cons pe_int pa_nil)) (pg_name (i := 4) sc__law_k16_served.nd rfl (by first | exact Or.inl rfl | exact Or.inr rfl))
        (pss_one (ps_if (PW.pt (pw_or (pt_not (pt_val (pe_ok (ok__law_matches T) (hr.mono (by first | decide | omega)) rfl pass0 (pa_cons (pe_ok (ok_unserved_day T) (hr.mono (by first | decide | omega)) rfl passL (pa_cons (pe_callTy (list_ofK (K := K) rfl) rfl (n_list T) (by decide +kernel) (pa_cons (pv 1) pa_nil)) (pa_cons (pv 12) pa_nil))) (pa_cons (pv 14) pa_nil))))) (pw_or1 (pt_cmpR op_ne (pe_callB (call_reprD hr hgd) rfl (n_repr T) (by decide +kernel) (pa_cons (pv 12) pa_nil)) (pv 13) (nomark _))))) (pss_one (ps_ret pe_bl)) pss_nil)))
      (pss_one (ps_if (PW.pt (pw_or (pt_not (pt_val (pe_twice (cc := (He.cT K ("_law_k16_served", none)).1) (P := (He.cT K ("_law_k16_served", none)).2) T hr rfl (TB _ (List.mem_of_getElem? (i := 1) rfl)) rfl (List.mem_of_getElem? (i := 1) rfl) (LamX.lamS_by (by kernel_rfl)) rfl (fun _ _ _ _ _ => rfl) (fun A outer s H E f c' hr => (pe_ok (ok_sight_of T) (hr.mono (by first | decide | omega)) rfl passL (pa_cons (pv 2) (pa_cons (pv 12) pa_nil)))) (pa_cons (pv 15) pa_nil)))) (pw_or1 (pt_cmpR op_ne (pe_callB (call_reprD hr hgd) rfl (n_repr T) (by decide +kernel) (pa_cons (pv 12) pa_nil)) (pv 13) (nomark _))))) (pss_one (ps_ret pe_bl)) pss_nil)))))))))
      (pss_one (ps_ret pe_bl)))))))))), ?_⟩
    refine ⟨_, rfl, _, _, rfl, .inl (SqL.of ha), ?_⟩
    rw [ints_len]
    refine nxE ⟨(by show 0 ≤ sizeLine; decide), fun lc hlc => ?_⟩
    have b0 : But sa H (upd H lc (.lst [])) := But.of (same_new hlc)
    have hlcsa : lc ≠ sa := fun z => hs.ne (z ▸ hlc)
    refine ⟨_, rfl, sa, 7, rfl, by decide, by decide, hs.new hlc, fun r0 x y z q0 q1 => ⟨_, rfl, by omega, by omega, for_upto (lo := 0) (L := r0.toNat) rfl (fun i σ H' => ∃ v4 v5 xs cs, σ = [some (.ref sa), some (.ref a), some (.int ns.length), some (.ref lc), v4, v5, none, none, none, none, none, none, none, none, none, none] ∧ But sa H H' ∧ Stk H' sa ∧ H' lc = some (.lst xs) ∧ Paired (PairT H') xs cs ∧ xs.length = i ∧ ∀ c ∈ cs, VC ns.length c) ⟨none, none, [], [], rfl, b0.upd, stk_upd, by rw [upd_ne hlcsa, upd_same], .nil, rfl, fun c hc => by cases hc⟩ ?_ ?_⟩⟩
    · rintro i σ H' hi ⟨v4, v5, xs, cs, rfl, b, hst, hL, hP, hxl, hV⟩
      refine st_let (fun v H2 => ∃ z, v = .int z ∧ 0 ≤ z ∧ z < 2000000000 ∧ But sa H' H2 ∧ Stk H2 sa) (fun R hR => ?_) (fun v H2 hv => ?_)
      · refine ⟨_, rfl, sa, 6, rfl, by decide, by decide, hst, fun r x y z r0 r1 => ⟨_, _, rfl, rfl, _, rfl, ?_⟩⟩
        refine ite2 (fun c => ?_) (fun c => ?_)
        · exact ⟨_, rfl, sa, 4, rfl, by decide, by decide, stk_upd, fun r' x y z r0 r1 => hR _ _ ⟨_, rfl, r0, by omega, (But.refl sa H').upd.upd, stk_upd⟩⟩
        · refine ⟨_, rfl, _, rfl, _, _, rfl, rfl, (by unfold CPow; decide), sa, _, rfl, (by decide), (by decide), stk_upd, fun r' x y z r0 r1 => ⟨_, _, rfl, rfl, hR _ _ ⟨_, rfl, by omega, ?_, (But.refl sa H').upd.upd, stk_upd⟩⟩⟩
          have e9 : ((10 : Int) ^ (9 : Int).toNat) = 1000000000 := by decide
          rw [e9] at r1
          omega
      · obtain ⟨zr, rfl, z0, z1, b2, hst2⟩ := hv
        have hL2 := b2 _ _ hL hlcsa
        refine ⟨_, rfl, .inl ⟨rfl, _, SqL.of hL2⟩, _, rfl, _, rfl, sa, (ns.length : Int), rfl, by omega, by omega, hst2, fun r x y z r0 r1 => ⟨_, _, rfl, rfl, _, rfl, (by show 2 ≤ sizeLine; decide), fun p hp => ?_⟩⟩
        have b3 : But sa H' (upd H2 sa (stk x y z)) := b2.upd
        have hL3 : upd H2 sa (stk x y z) lc = some (.lst xs) := b3 _ _ hL hlcsa
        obtain ⟨s4, hp4⟩ := new2 (.tup [.int (1 + r), .int zr]) hp
        have hL4 := s4 _ _ hL3
        refine ⟨lc, xs, _, rfl, rfl, hL4, line_lt (by omega), ?_⟩
        refine ⟨_, _, xs ++ [V.ref p], cs ++ [(1 + r, zr)], rfl, ((b.trans (b3.trans (But.of s4))).mut hlc), ?_, upd_same, ?_, by rw [List.length_append, hxl]; rfl, ?_⟩
        · exact (Stk.same stk_upd s4).but hlcsa.symm
        · refine paired_snoc (Paired.mapP hP fun _ _ w => ((w.bx hst (Bx.of_but b3)).same s4).mut hL4) ?_
          exact PairT.mut hL4 ⟨p, rfl, hp4⟩
        · intro c hc
          rcases List.mem_append.mp hc with hc | hc
          · exact hV c hc
          · rw [List.mem_singleton.mp hc]
            unfold VC
            omega
    · rintro σ H1 ⟨v4, v5, xs, cs, rfl, b1, hst1, hL1, hP1, hxl, hV⟩
      have ha1 := b1 _ _ ha hsa
      have T1 : LamX.Tabs (Tl K) H1 := tabs_but hT hs b1
      have hcl : cs.length ≤ 7 := by rw [← Paired.length hP1, hxl]; omega
      refine nxE ⟨_, rfl, sa, 3, rfl, by decide, by decide, hst1, fun r x y z rr0 rr1 => ?_⟩
      have b2 : But sa H (upd H1 sa (stk x y z)) := b1.upd
      have c2 : Bx sa H1 (upd H1 sa (stk x y z)) := Bx.of_but (But.refl sa H1).upd
      refine nxE (st_let (fun v H3 => Same (upd H1 sa (stk x y z)) H3 ∧ ((nev r 1 ns = 0 ∧ ∃ t l, v = .ref t ∧ H3 t = some (.tup [.str "calls", .ref l]) ∧ H3 l = some (.lst ((grd r 0 1 ns).map V.int))) ∨ ∃ t d, v = .ref t ∧ H3 t = some (.tup [.str "never", .int d]))) (fun R hR => ?_) (fun v H3 hv => ?_))
      · refine ⟨_, rfl, _, rfl, a, ns, r, rfl, SqL.of (b2 _ _ ha hsa), by omega, fun h v H' s' hv => ?_, fun h v H' s' hv => ?_⟩
        · obtain ⟨t, e, h1⟩ := hv
          exact hR _ _ ⟨s', .inr ⟨t, _, e, h1⟩⟩
        · obtain ⟨t, l, e, h1, h2, _⟩ := hv
          exact hR _ _ ⟨s', .inl ⟨h, t, l, e, h1, h2⟩⟩
      obtain ⟨s3, hv⟩ := hv
      have b3 : But sa H H3 := b2.trans (But.of s3)
      have c3 : Bx sa H1 H3 := c2.trans (Bx.of_same s3)
      have hst3 : Stk H3 sa := Stk.same stk_upd s3
      refine ⟨_, rfl, (by show 0 ≤ sizeLine; decide), fun p hp => ⟨(by show 2 ≤ sizeLine; decide), fun q hq => ?_⟩⟩
      obtain ⟨s4, hp4⟩ := new2 (.lst []) hp
      obtain ⟨s5, hq5⟩ := new2 (.lst [V.ref lc, V.ref p]) hq
      have s45 := s4.trans s5
      have hst5 := hst3.same s45
      have c5 := c3.trans (Bx.of_same s45)
      have b5 : But sa H _ := b3.trans (But.of s45)
      have hq0 : H q = none := b3.free hst3.ne (s4.free hq)
      have qsa : q ≠ sa := fun z => hs.ne (z ▸ hq0)
      have psa : p ≠ sa := fun z => hst3.ne (z ▸ hp)
      have rowC : RowA ns.length sa _ (.ref lc) := RowA.bx hst1 c5 ⟨lc, xs, cs, rfl, hlcsa, hL1, hP1, by omega, hV⟩
      have rowE : RowA ns.length sa _ (.ref p) := ⟨p, [], [], rfl, psa, s5 _ _ hp4, .nil, by decide, fun c hc => by cases hc⟩
      refine nxE (seq_via (fun σ' H6 => ∃ v4 v8 v9 vs, σ' = [some (.ref sa), some (.ref a), some (.int ns.length), some (.ref lc), v4, some (.int r), some v, some (.ref q), v8, v9, none, none, none, none, none, none] ∧ But sa H H6 ∧ Stk H6 sa ∧ H6 q = some (.lst vs) ∧ vs.length ≤ 10 ∧ ∀ x ∈ vs, RowA ns.length sa H6 x) (fun U hU => ?_) ?_)
      · rcases hv with ⟨h0, t, l, rfl, ht, hl⟩ | ⟨t, d, rfl, ht⟩
        · have ht5 := s45 _ _ ht
          have hl5 := s45 _ _ hl
          have gl : (grd r 0 1 ns).length ≤ 24 := Nat.le_trans (grd_len r ns 0 1) hn
          refine ⟨_, rfl, .inr (.inl ⟨t, _, 0, _, rfl, rfl, SqT.of ht5, rfl, rfl, _, rfl, ?_⟩)⟩
          rw [decide_eq_true rfl]
          refine iteT ⟨_, rfl, _, rfl, .inr (.inl ⟨t, _, 1, _, rfl, rfl, SqT.of ht5, rfl, l, rfl, ⟨_, SqL.of hl5⟩, fun D hD => lc_acc (K := K) (a := l) (xs := (grd r 0 1 ns).map V.int) hD (SqL.of hl5) (by rw [ints_len]; omega) (fun j acc H2 => Paired (PairT H2) acc (((grd r 0 1 ns).take j).map fun d => (d, r))) (fun _ _ => .nil) ?_ ?_⟩)⟩
          · rintro j x acc H2 N N0 hx2 s2 hacc hP hN hN0
            obtain ⟨d, hd, rfl⟩ := ints_get hx2
            refine ⟨rfl, ?_⟩
            refine ⟨_, rfl, _, rfl, (by show 2 ≤ sizeLine; decide), fun p hp => ?_⟩
            obtain ⟨s3, hp3⟩ := new2 (.tup [V.int d, V.int r]) hp
            refine hN _ _ s3 fun H5 b5 _ => ?_
            have hD5 := s3 _ _ hacc
            rw [take_get hd, List.map_append]
            refine paired_snoc (Paired.mapP hP fun _ _ w => ?_) ⟨p, rfl, b5 _ _ hp3 fun z => by rw [z, hacc] at hp; cases hp⟩
            obtain ⟨t, rfl, w⟩ := w
            have w := s3 _ _ w
            exact ⟨t, rfl, b5 _ _ w fun z => by rw [z, hD5] at w; cases w⟩
          · rintro acc H6 s6 hacc hal hP
            rw [ints_len, List.take_length] at hP
            rw [ints_len] at hal
            have hDsa : D ≠ sa := fun z => hst5.ne (z ▸ hD)
            have hst6 := hst5.same s6
            refine ⟨sa, D, acc, rfl, SqL.of hacc, by omega, hDsa, hst6, fun g H7 ys hg b7 hst7 hg7 hys hyl => ?_⟩
            -- lists.append(good)
            have hgq : g ≠ q := fun z => by rw [z, s6 _ _ hq5] at hg; cases hg
            have hgsa : g ≠ sa := fun z => hst6.ne (z ▸ hg)
            have hglc : g ≠ lc := fun z => by
              obtain ⟨_, _, _, e, _, w, _⟩ := rowC
              cases e
              rw [z, s6 _ _ w] at hg; cases hg
            have hgp : g ≠ p := fun z => by rw [z, s6 _ _ (s5 _ _ hp4)] at hg; cases hg
            have c7 : Bx sa _ H7 := (Bx.of_same s6).trans (Bx.of_but b7)
            have hq7 := c7.lst qsa hq5
            have rC7 := rowC.bx hst5 c7
            have rE7 := rowE.bx hst5 c7
            have rG7 : ∃ gs, Paired (PairT H7) ys gs ∧ ∀ c ∈ gs, VC ns.length c := by
              refine paired_build ys fun y hy => ?_
              obtain ⟨c, hc, hr⟩ := paired_mem hP (hys y hy)
              refine ⟨c, hr.bx hst6 (Bx.of_but b7), ?_⟩
              obtain ⟨d, hd, rfl⟩ := List.mem_map.mp hc
              have := grd_mem hd
              unfold VC
              omega
            obtain ⟨gs, hG7, hGV⟩ := rG7
            have ygl : ys.length ≤ 24 := by omega
            have ggl : gs.length ≤ 24 := by rw [← Paired.length hG7]; exact ygl
            have rowG : RowA ns.length sa H7 (.ref g) := ⟨g, ys, gs, rfl, hgsa, hg7, hG7, by omega, hGV⟩
            have hlcq : lc ≠ q := fun z => by
              rw [← z] at hq
              rw [s4 _ _ (c3.lst hlcsa hL1)] at hq
              cases hq
            have hpq : p ≠ q := fun z => by rw [← z, hp4] at hq; cases hq
            have b7' : But sa H H7 := (b5.trans (But.of s6)).trans b7
            refine ⟨_, rfl, .inl ⟨rfl, _, SqL.of hq7⟩, _, rfl, q, _, _, rfl, rfl, hq7, (by show 2 < sizeLine; decide), ?_⟩
            have rC8 := RowA.mut (o := .lst ([V.ref lc, V.ref p] ++ [V.ref g])) hq7 hlcq rC7
            have rE8 := RowA.mut (o := .lst ([V.ref lc, V.ref p] ++ [V.ref g])) hq7 hpq rE7
            have rG8 := RowA.mut (o := .lst ([V.ref lc, V.ref p] ++ [V.ref g])) hq7 hgq rowG
            have b8 : But sa H (upd H7 q (.lst ([V.ref lc, V.ref p] ++ [V.ref g]))) := b7'.mut hq0
            have hst8 : Stk (upd H7 q (.lst ([V.ref lc, V.ref p] ++ [V.ref g]))) sa := hst7.but qsa.symm
            have hq8 : upd H7 q (.lst ([V.ref lc, V.ref p] ++ [V.ref g])) q = some (.lst ([V.ref lc, V.ref p] ++ [V.ref g])) := upd_same
            have hg8 : upd H7 q (.lst ([V.ref lc, V.ref p] ++ [V.ref g])) g = some (.lst ys) := by rw [upd_ne hgq]; exact hg7
            refine ⟨_, rfl, _, _, rfl, .inl (SqL.of hg8), _, _, rfl, rfl, _, rfl, ?_⟩
            generalize upd H7 q (.lst ([V.ref lc, V.ref p] ++ [V.ref g])) = H8 at rC8 rE8 rG8 b8 hst8 hq8 hg8
            refine ite2 (fun c => ?_) (fun c => ?_)
            · obtain ⟨lr1, xs8, cs8, e1, _, hL8, hP8, hcl8, hV8⟩ := rC8
              cases e1
              obtain ⟨lr2, ys8, gs8, e2, _, hg8', hG8, hgl8, hGV8⟩ := rG8
              cases e2
              have ey : ys8 = ys := by rw [hg8] at hg8'; cases hg8'; rfl
              subst ey
              refine ⟨_, rfl, .inl ⟨rfl, _, SqL.of hq8⟩, _, rfl, _, rfl, g, ys8, rfl, SqL.of hg8, fun m1 hm1 => ?_⟩
              have cd : cutV ys8 (some 1) none = ys8.drop 1 := cut_drop ys8 (k := 1) rfl
              rw [cd]
              obtain ⟨s9, hm9⟩ := new2 (.lst (ys8.drop 1)) hm1
              refine ⟨_, rfl, _, rfl, lc, xs8, rfl, SqL.of (s9 _ _ hL8), fun m2 hm2 => ?_⟩
              have ct : cutV xs8 none (some 1) = xs8.take 1 := cut_take xs8 (k := 1) rfl
              rw [ct]
              obtain ⟨s10, hm10⟩ := new2 (.lst (xs8.take 1)) hm2
              refine ⟨m1, m2, _, _, rfl, rfl, s10 _ _ hm9, hm10, (by rw [List.length_drop, List.length_take]; exact line_of (by omega)), fun m3 hm3 => ?_⟩
              obtain ⟨s11, hm11⟩ := new2 (.lst (ys8.drop 1 ++ xs8.take 1)) hm3
              have s911 := (s9.trans s10).trans s11
              have hq11 := s911 _ _ hq8
              refine ⟨q, _, _, rfl, rfl, hq11, (by show 3 < sizeLine; decide), ?_⟩
              have hm3q : m3 ≠ q := fun z => by rw [z, (s9.trans s10) _ _ hq8] at hm3; cases hm3
              have hm3sa : m3 ≠ sa := fun z => (hst8.same (s9.trans s10)).ne (z ▸ hm3)
              have rowN : RowA ns.length sa _ (.ref m3) := ⟨m3, _, gs8.drop 1 ++ cs8.take 1, rfl, hm3sa, hm11, paired_app (paired_drop 1 (Paired.mapP hG8 fun _ _ w => w.same s911)) (paired_take 1 (Paired.mapP hP8 fun _ _ w => w.same s911)), by rw [List.length_append, List.length_drop, List.length_take]; omega, fun c hc => by
                rcases List.mem_append.mp hc with hc | hc
                · exact hGV8 c (List.mem_of_mem_drop hc)
                · exact hV8 c (List.mem_of_mem_take hc)⟩
              have rC11 : RowA ns.length sa _ (.ref lc) := RowA.bx hst8 (Bx.of_same s911) ⟨lc, xs8, cs8, rfl, hlcsa, hL8, hP8, hcl8, hV8⟩
              have rG11 : RowA ns.length sa _ (.ref g) := RowA.bx hst8 (Bx.of_same s911) ⟨g, ys8, gs8, rfl, hgsa, hg8, hG8, hgl8, hGV8⟩
              have rE11 := RowA.bx hst8 (Bx.of_same s911) rE8
              refine hU _ _ ⟨_, _, _, _, rfl, (b8.trans (But.of s911)).mut hq0, (hst8.same s911).but qsa.symm, upd_same, (by show 4 ≤ 10; decide), fun x hx => ?_⟩
              have hx : x = V.ref lc ∨ x = V.ref p ∨ x = V.ref g ∨ x = V.ref m3 := by simpa using hx
              rcases hx with rfl | rfl | rfl | rfl
              · exact RowA.mut hq11 hlcq rC11
              · exact RowA.mut hq11 hpq rE11
              · exact RowA.mut hq11 hgq rG11
              · exact RowA.mut hq11 hm3q rowN
            · refine hU _ _ ⟨_, _, _, _, rfl, b8, hst8, hq8, (by show 3 ≤ 10; decide), fun x hx => ?_⟩
              have hx : x = V.ref lc ∨ x = V.ref p ∨ x = V.ref g := by simpa using hx
              rcases hx with rfl | rfl | rfl
              · exact rC8
              · exact rE8
              · exact rG8
        · have ht5 := s45 _ _ ht
          refine ⟨_, rfl, .inr (.inl ⟨t, _, 0, _, rfl, rfl, SqT.of ht5, rfl, rfl, _, rfl, ?_⟩)⟩
          rw [s_never]
          refine iteF (hU _ _ ⟨_, _, _, _, rfl, b5, hst5, hq5, (by show 2 ≤ 10; decide), fun x hx => ?_⟩)
          rcases List.mem_cons.mp hx with rfl | hx
          · exact rowC
          · rw [List.mem_singleton.mp hx]; exact rowE
      · rintro σ6 H6 ⟨v4, v8, v9, vs, rfl, b6, hst6, hq6, hvl, hrow⟩
        have T6 : LamX.Tabs (Tl K) H6 := tabs_but hT hs b6
        refine ⟨_, rfl, q, rfl, ⟨_, SqL.of hq6⟩, for_list (K := K) (xs := vs) (fun i σ H' => ∃ v4 v8 v9 v10 v11 v12 v13 v14 v15, σ = [some (.ref sa), some (.ref a), some (.int ns.length), some (.ref lc), v4, some (.int r), some v, some (.ref q), v8, v9, v10, v11, v12, v13, v14, v15] ∧ Bx sa H6 H' ∧ Stk H' sa ∧ LamX.Tabs (Tl K) H') ⟨_, _, _, _, _, _, _, _, _, rfl, Bx.of_same (Same.refl _), hst6, T6⟩ (fun i σ H' _ ⟨_, _, _, _, _, _, _, _, _, _, e, _⟩ => SqL.of (e.lst qsa hq6)) ?_ ?_⟩
        · rintro i x σ H7 hx ⟨v4, v8, v9, v10, v11, v12, v13, v14, v15, rfl, e7, hst7, T7⟩
          obtain ⟨lr, xr, cr, rfl, hlrsa, hL7, hP7, hcl7, hV7⟩ := (hrow x (List.mem_of_getElem? hx)).bx hst6 e7
          have ha7 := e7.lst hsa (b6 _ _ ha hsa)
          have hxl7 : xr.length ≤ 60 := by rw [Paired.length hP7]; exact hcl7
          refine ⟨_, rfl, lr, rfl, ⟨_, SqL.of hL7⟩, fun D hD => lc_accB (K := K) (a := lr) (xs := xr) (sa := sa) hD hst7.ne hlrsa (SqL.of hL7) (by omega) (fun j acc H2 => Stk H2 sa ∧ ∃ gs : List G3, Paired (PairG D sa H2) acc gs ∧ gs.map prj = cr.take j) (fun H' s' => ⟨hst7.same s', [], .nil, rfl⟩) ?_ ?_⟩
          · rintro j x acc H2 N N0 hx2 e2 hacc ⟨hst2, gs, hP, hgs⟩ hN hN0
            obtain ⟨c, hc, hr7⟩ := paired_get hP7 hx2
            obtain ⟨t, rfl, ht⟩ := hr7.bx hst7 (Bx.of_but e2)
            have htsa : t ≠ sa := ne_stk hst2 ht fun _ z => by cases z
            have hDsa : D ≠ sa := fun z => hst7.ne (z ▸ hD)
            refine ⟨rfl, ?_⟩
            refine ⟨_, rfl, sa, 4, rfl, by decide, by decide, hst2, fun r' x y z r0 r1 => ⟨rfl, _, rfl, ?_⟩⟩
            have b8 : But sa H2 (upd H2 sa (stk x y z)) := (But.refl sa H2).upd
            have hst8 : Stk (upd H2 sa (stk x y z)) sa := stk_upd
            have ht8 := b8 _ _ ht htsa
            have hD8 := b8 _ _ hacc hDsa
            have htD : t ≠ D := fun z => by rw [z, hacc] at ht; cases ht
            have tk : gs.map prj ++ [c] = cr.take (j + 1) := by rw [hgs, take_get hc]
            refine ite2 (fun q => ?_) (fun q => ?_)
            · refine ⟨_, rfl, t, _, rfl, .inr (SqT.of ht8), fun p hp => ?_⟩
              obtain ⟨s9, hp9⟩ := new2 (.lst [V.int c.1, V.int c.2]) hp
              have hpD : p ≠ D := fun z => by rw [z, hD8] at hp; cases hp
              have hpsa : p ≠ sa := fun z => hst8.ne (z ▸ hp)
              refine hN _ _ (b8.trans (But.of s9)) fun H5 b5 _ => ⟨?_, gs ++ [(true, c.1, c.2)], ?_, ?_⟩
              · obtain ⟨x1, y1, z1, w⟩ := hst8.same s9
                exact ⟨x1, y1, z1, b5 _ _ w hDsa.symm⟩
              · exact paired_snoc (Paired.mapP hP fun _ _ w => (w.bx ((Bx.of_but b8).trans (Bx.of_same s9))).butD b5) ⟨p, rfl, hpD, hpsa, b5 _ _ hp9 hpD⟩
              · rw [List.map_append]; exact tk
            · refine ⟨_, rfl, hN _ _ b8 fun H5 b5 _ => ⟨?_, gs ++ [(false, c.1, c.2)], ?_, ?_⟩⟩
              · obtain ⟨x1, y1, z1, w⟩ := hst8
                exact ⟨x1, y1, z1, b5 _ _ w hDsa.symm⟩
              · exact paired_snoc (Paired.mapP hP fun _ _ w => (w.bx (Bx.of_but b8)).butD b5) ⟨t, rfl, htD, htsa, b5 _ _ ht8 htD⟩
              · rw [List.map_append]; exact tk
          · rintro acc H8 b8 hacc8 hal8 ⟨hst8, gs, hG8, hgs⟩
            rw [Paired.length hP7, List.take_length] at hgs
            have hDsa : D ≠ sa := fun z => hst7.ne (z ▸ hD)
            have hgl : gs.length ≤ 60 := by rw [← Paired.length hG8]; omega
            have hgood := good_datG (gs := gs) (VC.sm (T := ns.length) (by omega) (by rw [hgs]; exact hV7))
            have hfit := hgood.fits (by decide) (by omega)
            have ha8 := b8 _ _ ha7 hsa
            have hL8 := b8 _ _ hL7 hlrsa
            have hP8 := Paired.mapP hP7 fun _ _ w => w.bx hst7 (Bx.of_but b8)
            have T8 := tabs_but T7 hst7 b8
            have e8 : Bx sa H6 H8 := e7.trans (Bx.of_but b8)
            refine ⟨_, rfl, D, datG gs, rfl, dp_datG hacc8 hG8, hgood.show_, hgood.dict, Nat.le_trans hgood.depth (by decide), hfit, ?_⟩
            refine ⟨_, rfl, _, rfl, a, lr, ns, xr, cr, rfl, SqL.of ha8, SqL.of hL8, Paired.mapP hP8 fun _ _ w => w.r, by omega, by omega, fun H9 s9 => ?_⟩
            refine ⟨_, rfl, _, rfl, ns.length, lr, xr, cr, rfl, SqL.of (s9 _ _ hL8), Paired.mapP hP8 fun _ _ w => (w.same s9).r, by omega, by omega, by omega, fun vS H10 s10 hvS => ?_⟩
            obtain ⟨sl, rfl, _, hsl⟩ := hvS
            have s810 := s9.trans s10
            have ha10 := s810 _ _ ha8
            refine ⟨_, rfl, rfl, _, rfl, _, rfl, by omega, by omega, fun D2 hD2 => lc_upto (lo := 0) (L := ns.length) (by omega) hD2 (by omega) (fun j ac _ => ac.length = 0 ↔ ∀ (i : Nat) n, i < j → ns[i]? = some n → n ≤ sg ns.length (1 + (i : Nat)) cr) (fun _ _ => ⟨(fun _ i n h => by omega), fun _ => rfl⟩) ?_ ?_⟩
            · rintro j ac H' N N0 hj s' hac hI hN hN0
              obtain ⟨n, hnj⟩ := ints_ix hj
              have hsj : (sights ns.length cr)[j]? = some (sg ns.length (1 + (j : Nat)) cr) := by
                unfold sights
                rw [List.getElem?_map, List.getElem?_range (by omega)]
                rfl
              refine ⟨rfl, ?_⟩
              refine ⟨_, rfl, _, rfl, .inl ⟨sl, _, _, _, rfl, rfl, SqL.of (s' _ _ hsl), at_of (by omega) (ints_at hsj), _, rfl, _, rfl, a, _, _, _, rfl, rfl, SqL.of (s' _ _ ha10), at_of (by omega) (ints_at hnj), _, _, rfl, rfl, _, rfl, ?_⟩⟩
              refine ite2 (fun c => ?_) (fun c => ?_)
              · have c := of_decide_eq_true c
                refine ⟨_, rfl, hN _ _ (Same.refl _) fun _ _ _ => ⟨fun z => ?_, fun z => ?_⟩⟩
                · rw [List.length_append] at z; exact absurd z (Nat.succ_ne_zero _)
                · have := z j n (by omega) hnj
                  omega
              · have c : n ≤ sg ns.length (1 + (j : Nat)) cr := Int.not_lt.mp fun z => c (decide_eq_true z)
                refine hN0 _ (Same.refl _) ?_
                rw [hI]
                constructor
                · intro z i n' hi hn'
                  by_cases e : i = j
                  · subst e
                    rw [hnj] at hn'
                    cases hn'
                    exact c
                  · exact z i n' (by omega) hn'
                · exact fun z i n' hi hn' => z i n' (by omega) hn'
            · rintro ac H11 s11 hac hacl hI
              have key : decide (V.int (uns cr 1 ns) = V.int 0) = decide (V.int ac.length = V.int 0) := by
                have e1 := sight_uns (T := ns.length) (cs := cr) hb
                have e2 : uns cr 1 ns = 0 ↔ ac.length = 0 := by
                  rw [e1, hI]
                  constructor
                  · exact fun z i n _ hn => z i n hn
                  · exact fun z i n hn => z i n (List.getElem?_eq_some_iff.mp hn).1 hn
                by_cases z : uns cr 1 ns = 0
                · rw [decide_eq_true (by rw [z]), decide_eq_true (by rw [e2.mp z]; rfl)]
                · rw [decide_eq_false (fun q => z (by injection q)), decide_eq_false (fun q => z (e2.mpr (by injection q with q; omega)))]
              refine ⟨D2, ac, rfl, .inl (SqL.of hac), rfl, rfl, _, rfl, ?_⟩
              rw [key, decide_eq_true rfl]
              refine iteF ?_
              have s811 := s810.trans s11
              have hG11 := Paired.mapP hG8 fun _ _ w => w.bx (Bx.of_same s811)
              have hD11 := s811 _ _ hacc8
              have ha11 := s811 _ _ ha8
              have hal : acc.length ≤ 60 := by rw [Paired.length hG8]; exact hgl
              have hpr : ∀ H2, Same H11 H2 → PairsR K H2 acc cr := fun H2 s2 => by
                have := prs_of (K := K) (Paired.mapP hG11 fun _ _ w => w.bx (Bx.of_same s2))
                rw [hgs] at this
                exact this
              have hcr : cr.length ≤ 60 := hcl7
              have hfb := fbad_good hV7 1
              refine nxE ⟨_, rfl, (by decide), (by decide), for_upto (lo := 0) (L := 2) rfl (fun i σ H' => ∃ v4, σ = [some (.ref sa), some (.ref a), some (.int ns.length), some (.ref lc), v4, some (.int r), some v, some (.ref q), v8, v9, some (.ref lr), v11, some (.ref D), some (.str (datG gs).shown), some (.int (uns cr 1 ns)), some (.ref sl)] ∧ Same H11 H') ⟨_, rfl, Same.refl _⟩ ?_ ?_⟩
              · rintro i σ H12 hi ⟨v4, rfl, s12⟩
                have hG12 := Paired.mapP hG11 fun _ _ w => w.bx (Bx.of_same s12)
                refine ⟨_, rfl, a, _, rfl, .inl (SqL.of (s12 _ _ ha11)), fun m hm => ?_⟩
                obtain ⟨s13, hm13⟩ := new2 (.lst (ns.map V.int)) hm
                have s1213 := s12.trans s13
                refine ⟨_, rfl, m, D, ns, acc, cr, rfl, SqL.of hm13, SqL.of (s1213 _ _ hD11), hpr _ s1213, by omega, by omega, (fun z => by omega), (fun _ z => by omega), (fun _ _ z => absurd hfb z), fun _ _ _ H14 s14 => ?_⟩
                refine ⟨_, rfl, .int _, .int _, rfl, .inl ⟨_, rfl, rfl⟩, fun H15 s15 => ⟨_, rfl, iteF ?_⟩⟩
                have s1215 := (s1213.trans s14).trans s15
                refine ⟨_, rfl, D, datG gs, rfl, dp_datG (s1215 _ _ hD11) (Paired.mapP hG11 fun _ _ w => w.bx (Bx.of_same s1215)), hgood.show_, hgood.dict, Nat.le_trans hgood.depth (by decide), hfit, _, rfl, rfl, _, rfl, ?_⟩
                rw [decide_eq_true rfl]
                exact iteF ⟨_, rfl, s1215⟩
              · rintro σ H12 ⟨v4, rfl, s12⟩
                have s812 := s811.trans s12
                refine ⟨T8.ext s812, fun H13 c' e13 T13 hc => ⟨_, rfl, .ref sl, rfl, hc, .nums (sights ns.length cr), (by show (sights ns.length cr).length ≤ 1000; rw [sights_len]; omega), ⟨sl, rfl, ext_lst e13 ((s11.trans s12) _ _ hsl)⟩, fun H14 Q' s14 q' => ?_, fun H14 s14 => ⟨_, rfl, iteF ?_⟩⟩⟩
                · have b14 : Bx sa H11 H14 := ((Bx.of_same s12).trans (Bx.of_ext e13)).trans (Bx.of_same s14)
                  have hp14 := prs_of (K := K) (Paired.mapP hG11 fun _ _ w => w.bx b14)
                  rw [hgs] at hp14
                  exact ⟨_, rfl, _, rfl, ns.length, D, acc, cr, rfl, SqL.of (b14.lst hDsa hD11), hp14, by omega, by omega, by omega, (fun z => by omega), (fun _ z => absurd hfb z), fun _ _ v' H' s' hv' => q' _ _ s' hv'⟩
                · have b14 : Bx sa H11 H14 := ((Bx.of_same s12).trans (Bx.of_ext e13)).trans (Bx.of_same s14)
                  refine ⟨_, rfl, D, datG gs, rfl, dp_datG (b14.lst hDsa hD11) (Paired.mapP hG11 fun _ _ w => w.bx b14), hgood.show_, hgood.dict, Nat.le_trans hgood.depth (by decide), hfit, _, rfl, rfl, _, rfl, ?_⟩
                  rw [decide_eq_true rfl]
                  have b814 : Bx sa H8 H14 := (Bx.of_same s811).trans b14
                  refine iteF ⟨_, _, _, _, _, _, _, _, _, rfl, e8.trans b814, ?_, T13.ext s14⟩
                  obtain ⟨x1, y1, z1, w⟩ := hst8.same s812
                  exact ⟨x1, y1, z1, s14 _ _ (ext_lst e13 w)⟩
        · rintro σ7 H7 ⟨v4, v8, v9, v10, v11, v12, v13, v14, v15, rfl, e7, hst7, T7⟩
          exact k _ ((Bx.of_but b6).trans e7) T7
end
end K16
end
section
set_option maxRecDepth 100000
set_option maxHeartbeats 4000000
namespace K16
open PySem PySem.Spec PyProof.Rows L2
section
variable {P : Program} {w : World} {K : PySem.W.Frag} {mg : Str → Option Value} {base : Heap}
def Er (C : Addr) (fl : Str) (v : V) (H : Hp) : XK := fun cls d H' => cls = .ref C ∧ ∃ d', d = some d' ∧ Same H H' ∧ H' d' = some (.xd [(fl, v)])
theorem rz_er {C : Addr} {fl : Str} {v : V} {H H1 : Hp} (e : Same H H1) : Rz (Er C fl v H) H1 C fl v := fun d H' s hd => ⟨rfl, d, rfl, e.trans s, hd⟩
theorem ref_step {q z : Str} {t : XK → TE} {tv : TE} {σ : L2.St} {H : Hp} {Q : VK} {C : Addr} {fl : Str} (v : V) (hT : LamX.Tabs (Tl K) H) (hC : ErrC K C z fl) (hv : Leaf1 v) (htv : ∀ H1 Q, Q v H1 → tv σ H1 Q)
    (hl : ∀ H2 Q', LamX.ExtN H H2 → t (Er C fl v H2) σ H2 Q') (k : ∀ H', LamX.ExtN H H' → LamX.Tabs (Tl K) H' → Q (.bl true) H') : LamX.tLam2 (Tl K) q (TTr K) t (tTup (tCons (tC (.str z)) (tCons tv tNil))) σ H Q := by
  refine ⟨hT, fun H1 c' e1 T1 hc => ?_⟩
  refine htv H1 _ ⟨(by show 2 ≤ sizeLine; decide), fun p hp => ?_⟩
  obtain ⟨s2, hp2⟩ := new2 (.tup [.str z, v]) hp
  refine ⟨.ref p, rfl, s2 _ _ hc, C, z, fl, v, hC, hv, ⟨p, rfl, hp2⟩, fun Q' => hl _ _ (e1.trans (ext_of s2)), fun H3 s3 => k _ ((e1.trans (ext_of s2)).trans (ext_of s3)) ((T1.ext s2).ext s3)⟩
theorem fbad_app {T : Int} {w : Int × Int} {r : List (Int × Int)} (hw : badC T w = true) : ∀ (cs : List (Int × Int)) (k : Int), (∀ c ∈ cs, VC T c) → fbad T k (cs ++ w :: r) = k + cs.length
  | [], k, _ => by
    show fbad T k (w :: r) = _
    unfold fbad
    rw [if_pos hw]
    simp
  | c :: t, k, h => by
    show fbad T k (c :: (t ++ w :: r)) = _
    unfold fbad
    have hc := h c List.mem_cons_self
    unfold VC at hc
    rw [if_neg (by simp [badC]; omega), fbad_app hw t (k + 1) fun d hd => h d (List.mem_cons_of_mem _ hd)]
    rw [List.length_cons]
    omega
theorem paired_rep {α β : Type} {R : α → β → Prop} {x : α} {c : β} (h : R x c) : ∀ n, Paired R (List.replicate n [x]).flatten (List.replicate n c)
  | 0 => .nil
  | n + 1 => .cons h (paired_rep h n)
theorem rep_ints (n : Nat) (z : Int) : (List.replicate n [V.int z]).flatten = (List.replicate n z).map V.int := by
  induction n with
  | zero => rfl
  | succ n ih => rw [List.replicate_succ, List.flatten_cons, ih]; rfl
theorem rep_len {α : Type} (n : Nat) (x : α) : (List.replicate n [x]).flatten.length = n := by
  induction n with
  | zero => rfl
  | succ n ih => rw [List.replicate_succ, List.flatten_cons, List.length_append, ih]; simp; omega
def spRefused (K : PySem.W.Frag) : Sp := fun vs H Q _ => ∃ (sa a : Addr) (ns : List Int), vs = [.ref sa, .ref a] ∧ Stk H sa ∧ a ≠ sa ∧ H a = some (.lst (ns.map V.int)) ∧ 2 ≤ ns.length ∧ ns.length ≤ 24 ∧ LamX.Tabs (Tl K) H ∧ ∀ H', Bx sa H H' → LamX.Tabs (Tl K) H' → Q (.bl true) H'
theorem ok__law_k16_refused (T : Txt w K mg) (TB : TabsB K base mg) : Ok P w K mg base CX0 8 "_law_k16_refused" ["stock", "needs"] (spRefused K) := by
  refine Ok.defC (fl__law_k16_refused T) (fun _ _ _ _ _ _ us hl => match us, hl with | [_, _], _ => rfl) sc__law_k16_refused (fun vs H Q E h => ?_) (fun f A outer s H vs Q E hr h => ?_)
  · obtain ⟨sa, a, ns, rfl, _⟩ := h
    rfl
  · obtain ⟨sa, a, ns, rfl, hs, hsa, ha, hn1, hn, hT, k⟩ := h
    have ok__law_matches := fun (T : Txt w K mg) => ok_mt0 (P := P) (base := base) T
    refine ⟨_, (pss_cons (ps_set (i := 2) sc__law_k16_refused.nd rfl (by first | exact Or.inl rfl | exact Or.inr rfl) (pe_callB (len_seqK (K := K) rfl) rfl (n_len T) (by decide +kernel) (pa_cons (pv 1) pa_nil)))
      (pss_cons (ps_setLc (i := 4) (own := [("turn", 3)]) rfl sc__law_k16_refused.nd rfl rfl (sw_true rfl rfl rfl (by decide +kernel)) (pi_range1 rfl (n_range T) (pa_cons (pe_op op_add pe_int (pe_ok (ok__law_draw T) (hr.mono (by first | decide | omega)) rfl pass0 (pa_cons (pv 0) (pa_cons pe_int pa_nil)))) pa_nil)) (blkOk_by (N := ["stock", "needs", "days", "turn", "calls", "at", "wrong", "bad", "near", "reach"]) (sc := defScope s__law_k16_refused) (by decide +kernel)) (fun _ _ _ _ _ => (pg_name (i := 3) sc__law_k16_refused.nd rfl (by first | exact Or.inl rfl | exact Or.inr rfl))) (fun _ _ _ _ _ => pts_nil) (fun _ _ _ _ _ => (pe_tup (pa_cons (pe_op op_add pe_int (pe_ok (ok__law_draw T) (hr.mono (by first | decide | omega)) rfl pass0 (pa_cons (pv 0) (pa_cons (pv 2) pa_nil)))) (pa_cons (pe_ok (ok__law_draw T) (hr.mono (by first | decide | omega)) rfl pass0 (pa_cons (pv 0) (pa_cons pe_int pa_nil))) pa_nil)))))
      (pss_cons (ps_set (i := 5) sc__law_k16_refused.nd rfl (by first | exact Or.inl rfl | exact Or.inr rfl) (pe_ok (ok__law_draw T) (hr.mono (by first | decide | omega)) rfl pass0 (pa_cons (pv 0) (pa_cons (pe_callB (len_seqK (K := K) rfl) rfl (n_len T) (by decide +kernel) (pa_cons (pv 4) pa_nil)) pa_nil))))
      (pss_cons (ps_set (i := 6) sc__law_k16_refused.nd rfl (by first | exact Or.inl rfl | exact Or.inr rfl) (pe_ix (ix_listK (K := K) rfl) (pe_lst (pa_cons (pe_tup (pa_cons pe_int (pa_cons pe_int pa_nil))) (pa_cons (pe_tup (pa_cons (pe_op op_add (pv 2) pe_int) (pa_cons pe_int pa_nil))) (pa_cons (pe_tup (pa_cons (pv 2) (pa_cons (pe_un un_neg pe_int) pa_nil))) (pa_cons (pe_tup (pa_cons (pe_op op_sub (pe_un un_neg pe_int) (pe_ok (ok__law_draw T) (hr.mono (by first | decide | omega)) rfl pass0 (pa_cons (pv 0) (pa_cons pe_int pa_nil)))) (pa_cons pe_int pa_nil))) pa_nil))))) (pe_ok (ok__law_draw T) (hr.mono (by first | decide | omega)) rfl pass0 (pa_cons (pv 0) (pa_cons pe_int pa_nil))) (fun _ _ => rfl)))
      (pss_cons (ps_set (i := 7) sc__law_k16_refused.nd rfl (by first | exact Or.inl rfl | exact Or.inr rfl) (pe_op op_cat (pe_op op_cat (pe_op op_cat (pe_slice (sl_listK (K := K) rfl) (pv 4) po_none (po_some (pv 5))) (pe_lst (pa_cons (pv 6) pa_nil))) (pe_slice (sl_listK (K := K) rfl) (pv 4) (po_some (pv 5)) po_none)) (pe_ifExp (pt_cmpR op_eq (pe_ok (ok__law_draw T) (hr.mono (by first | decide | omega)) rfl pass0 (pa_cons (pv 0) (pa_cons pe_int pa_nil))) pe_int (nomark _)) (pe_lst (pa_cons (pe_tup (pa_cons pe_int (pa_cons (pe_un un_neg pe_int) pa_nil))) pa_nil)) (pe_lst pa_nil))))
      (pss_cons (ps_set (i := 8) sc__law_k16_refused.nd rfl (by first | exact Or.inl rfl | exact Or.inr rfl) (pe_op op_cat (pe_op op_cat (pe_slice (sl_listK (K := K) rfl) (pv 4) po_none (po_some (pv 5))) (pe_lst (pa_cons (pe_ix (ix_listK (K := K) rfl) (pe_lst (pa_cons (pe_tup (pa_cons pe_int (pa_cons pe_int pa_nil))) (pa_cons (pe_tup (pa_cons (pv 2) (pa_cons pe_int pa_nil))) pa_nil))) (pe_ok (ok__law_draw T) (hr.mono (by first | decide | omega)) rfl pass0 (pa_cons (pv 0) (pa_cons pe_int pa_nil))) (fun _ _ => rfl)) pa_nil))) (pe_slice (sl_listK (K := K) rfl) (pv 4) (po_some (pv 5)) po_none)))
      (pss_cons (ps_if (pt_not (pt_val (pe_refused (cc := (He.cT K ("_law_k16_refused", none)).1) (P := (He.cT K ("_law_k16_refused", none)).2) T hr rfl (TB _ (List.mem_of_getElem? (i := 2) rfl)) rfl (List.mem_of_getElem? (i := 2) rfl) (LamX.lamS_by (by kernel_rfl)) rfl (fun _ _ _ _ _ => rfl) (fun A outer s H E f c' hr => (pe_okS (ok_unserved_day T) (hr.mono (by first | decide | omega)) rfl (fun σ => passAt (takes_of rfl rfl rfl rfl) σ) (pa_cons (pv 1) (pa_cons (pv 7) pa_nil)))) (pa_cons (pe_tup (pa_cons pe_str (pa_cons (pe_op op_add (pv 5) pe_int) pa_nil))) pa_nil)))) (pss_one (ps_ret pe_bl)) pss_nil)
      (pss_cons (ps_if (pt_not (pt_val (pe_refused (cc := (He.cT K ("_law_k16_refused", none)).1) (P := (He.cT K ("_law_k16_refused", none)).2) T hr rfl (TB _ (List.mem_of_getElem? (i := 2) rfl)) rfl (List.mem_of_getElem? (i := 2) rfl) (LamX.lamS_by (by kernel_rfl)) rfl (fun _ _ _ _ _ => rfl) (fun A outer s H E f c' hr => (pe_okS (ok_sight_of T) (hr.mono (by first | decide | omega)) rfl (fun σ => passAt (takes_of rfl rfl rfl rfl) σ) (pa_cons (pv 2) (pa_cons (pv 7) pa_nil)))) (pa_cons (pe_tup (pa_cons pe_str (pa_cons (pe_op op_add (pv 5) pe_int) pa_nil))) pa_nil)))) (pss_one (ps_ret pe_bl)) pss_nil)
      (pss_cons (ps_if (pt_not (pt_val (pe_ok (ok__law_matches T) (hr.mono (by first | decide | omega)) rfl pass0 (pa_cons (pe_ok (ok_unserved_day T) (hr.mono (by first | decide | omega)) rfl passL (pa_cons (pv 1) (pa_cons (pv 8) pa_nil))) (pa_cons (pe_ok (ok__law_e_unserved T) (hr.mono (by first | decide | omega)) rfl pass0 (pa_cons (pv 1) (pa_cons (pv 8) pa_nil))) pa_nil))))) (pss_one (ps_ret pe_bl)) pss_nil)
      (pss_cons (ps_set (i := 9) sc__law_k16_refused.nd rfl (by first | exact Or.inl rfl | exact Or.inr rfl) (pe_op op_sub (pe_un un_neg pe_int) (pe_ok (ok__law_draw T) (hr.mono (by first | decide | omega)) rfl pass0 (pa_cons (pv 0) (pa_cons (pe_op op_pow pe_int pe_int) pa_nil)))))
      (pss_cons (ps_if (pt_not (pt_val (pe_refused (cc := (He.cT K ("_law_k16_refused", none)).1) (P := (He.cT K ("_law_k16_refused", none)).2) T hr rfl (TB _ (List.mem_of_getElem? (i := 2) rfl)) rfl (List.mem_of_getElem? (i := 2) rfl) (LamX.lamS_by (by kernel_rfl)) rfl (fun _ _ _ _ _ => rfl) (fun A outer s H E f c' hr => (pe_okS (ok_fewest_visits T) (hr.mono (by first | decide | omega)) rfl (fun σ => passAt (takes_of rfl rfl rfl rfl) σ) (pa_cons (pv 1) (pa_cons (pv 9) pa_nil)))) (pa_cons (pe_tup (pa_cons pe_str (pa_cons pe_int pa_nil))) pa_nil)))) (pss_one (ps_ret pe_bl)) pss_nil)
      (pss_cons (ps_if (pt_not (pt_val (pe_refused (cc := (He.cT K ("_law_k16_refused", none)).1) (P := (He.cT K ("_law_k16_refused", none)).2) T hr rfl (TB _ (List.mem_of_getElem? (i := 2) rfl)) rfl (List.mem_of_getElem? (i := 2) rfl) (LamX.lamS_by (by kernel_rfl)) rfl (fun _ _ _ _ _ => rfl) (fun A outer s H E f c' hr => (pe_okS (ok_fewest_visits T) (hr.mono (by first | decide | omega)) rfl (fun σ => passAt (takes_of rfl rfl rfl rfl) σ) (pa_cons (pe_op op_rep (pe_lst (pa_cons pe_int pa_nil)) pe_int) (pa_cons (pv 9) pa_nil)))) (pa_cons (pe_tup (pa_cons pe_str (pa_cons pe_str pa_nil))) pa_nil)))) (pss_one (ps_ret pe_bl)) pss_nil)
      (pss_cons (ps_if (pt_not (pt_val (pe_refused (cc := (He.cT K ("_law_k16_refused", none)).1) (P := (He.cT K ("_law_k16_refused", none)).2) T hr rfl (TB _ (List.mem_of_getElem? (i := 2) rfl)) rfl (List.mem_of_getElem? (i := 2) rfl) (LamX.lamS_by (by kernel_rfl)) rfl (fun _ _ _ _ _ => rfl) (fun A outer s H E f c' hr => (pe_okS (ok_unserved_day T) (hr.mono (by first | decide | omega)) rfl (fun σ => passAt (takes_of rfl rfl rfl rfl) σ) (pa_cons (pe_op op_rep (pe_lst (pa_cons pe_int pa_nil)) pe_int) (pa_cons (pe_op op_rep (pe_lst (pa_cons (pe_tup (pa_cons pe_int (pa_cons pe_int pa_nil))) pa_nil)) pe_int) pa_nil)))) (pa_cons (pe_tup (pa_cons pe_str (pa_cons pe_str pa_nil))) pa_nil)))) (pss_one (ps_ret pe_bl)) pss_nil)
      (pss_cons (ps_if (pt_not (pt_val (pe_refused (cc := (He.cT K ("_law_k16_refused", none)).1) (P := (He.cT K ("_law_k16_refused", none)).2) T hr rfl (TB _ (List.mem_of_getElem? (i := 2) rfl)) rfl (List.mem_of_getElem? (i := 2) rfl) (LamX.lamS_by (by kernel_rfl)) rfl (fun _ _ _ _ _ => rfl) (fun A outer s H E f c' hr => (pe_okS (ok_unserved_day T) (hr.mono (by first | decide | omega)) rfl (fun σ => passAt (takes_of rfl rfl rfl rfl) σ) (pa_cons (pv 1) (pa_cons (pe_op op_rep (pe_lst (pa_cons (pe_tup (pa_cons pe_int (pa_cons pe_int pa_nil))) pa_nil)) pe_int) pa_nil)))) (pa_cons (pe_tup (pa_cons pe_str (pa_cons pe_str pa_nil))) pa_nil)))) (pss_one (ps_ret pe_bl)) pss_nil)
      (pss_cons (ps_if (pt_not (pt_val (pe_ok (ok__law_matches T) (hr.mono (by first | decide | omega)) rfl pass0 (pa_cons (pe_ok (ok_unserved_day T) (hr.mono (by first | decide | omega)) rfl passL (pa_cons (pe_op op_cat (pe_op op_rep (pe_lst (pa_cons pe_int pa_nil)) pe_int) (pe_lst (pa_cons pe_int pa_nil))) (pa_cons (pe_op op_cat (pe_op op_rep (pe_lst (pa_cons (pe_tup (pa_cons pe_int (pa_cons pe_int pa_nil))) pa_nil)) pe_int) (pe_lst (pa_cons (pe_tup (pa_cons pe_int (pa_cons pe_int pa_nil))) pa_nil))) pa_nil))) (pa_cons pe_int pa_nil))))) (pss_one (ps_ret pe_bl)) pss_nil)
      (pss_cons (ps_if (pt_not (pt_val (pe_refused (cc := (He.cT K ("_law_k16_refused", none)).1) (P := (He.cT K ("_law_k16_refused", none)).2) T hr rfl (TB _ (List.mem_of_getElem? (i := 2) rfl)) rfl (List.mem_of_getElem? (i := 2) rfl) (LamX.lamS_by (by kernel_rfl)) rfl (fun _ _ _ _ _ => rfl) (fun A outer s H E f c' hr => (pe_okS (ok_record_days T) (hr.mono (by first | decide | omega)) rfl (fun σ => passAt (takes_of rfl rfl rfl rfl) σ) (pa_cons (pe_op op_rep (pe_lst (pa_cons pe_int pa_nil)) pe_int) pa_nil))) (pa_cons (pe_tup (pa_cons pe_str (pa_cons pe_str pa_nil))) pa_nil)))) (pss_one (ps_ret pe_bl)) pss_nil)
      (pss_cons (ps_if (pt_not (pt_val (pe_refused (cc := (He.cT K ("_law_k16_refused", none)).1) (P := (He.cT K ("_law_k16_refused", none)).2) T hr rfl (TB _ (List.mem_of_getElem? (i := 2) rfl)) rfl (List.mem_of_getElem? (i := 2) rfl) (LamX.lamS_by (by kernel_rfl)) rfl (fun _ _ _ _ _ => rfl) (fun A outer s H E f c' hr => (pe_okS (ok_common_needs T) (hr.mono (by first | decide | omega)) rfl (fun σ => passAt (takes_of rfl rfl rfl rfl) σ) (pa_cons (pe_lst (pa_cons (pv 1) (pa_cons (pe_op op_rep (pe_lst (pa_cons pe_int pa_nil)) pe_int) pa_nil))) pa_nil))) (pa_cons (pe_tup (pa_cons pe_str (pa_cons pe_str pa_nil))) pa_nil)))) (pss_one (ps_ret pe_bl)) pss_nil)
      (pss_one (ps_ret (pe_refused (cc := (He.cT K ("_law_k16_refused", none)).1) (P := (He.cT K ("_law_k16_refused", none)).2) T hr rfl (TB _ (List.mem_of_getElem? (i := 2) rfl)) rfl (List.mem_of_getElem? (i := 2) rfl) (LamX.lamS_by (by kernel_rfl)) rfl (fun _ _ _ _ _ => rfl) (fun A outer s H E f c' hr => (pe_okS (ok_common_needs T) (hr.mono (by first | decide | omega)) rfl (fun σ => passAt (takes_of rfl rfl rfl rfl) σ) (pa_cons (pe_lst (pa_cons (pv 1) (pa_cons (pv 1) (pa_cons (pe_slice (sl_listK (K := K) rfl) (pv 1) (po_some pe_int) po_none) pa_nil)))) pa_nil))) (pa_cons (pe_tup (pa_cons pe_str (pa_cons pe_str pa_nil))) pa_nil))))))))))))))))))))), ?_⟩
    refine ⟨_, rfl, _, _, rfl, .inl (SqL.of ha), ?_⟩
    rw [ints_len]
    -- calls
    refine nxE (st_let (fun v H1 => ∃ lc xs cs, v = .ref lc ∧ lc ≠ sa ∧ But sa H H1 ∧ Stk H1 sa ∧ H1 lc = some (.lst xs) ∧ Paired (PairT H1) xs cs ∧ 1 ≤ cs.length ∧ cs.length ≤ 4 ∧ ∀ c ∈ cs, VC ns.length c) (fun R hR => ?_) (fun v H1 hv => ?_))
    · refine ⟨_, rfl, sa, 4, rfl, by decide, by decide, hs, fun r x y z r0 r1 => ⟨_, _, rfl, rfl, _, rfl, by omega, by omega, fun D hD => lc_uptoB (lo := 0) (sa := sa) (L := (1 + r).toNat) (by omega) hD (by rw [upd_same]; exact fun z => by cases z) (by omega) (fun j acc H2 => Stk H2 sa ∧ ∃ cs : List (Int × Int), Paired (PairT H2) acc cs ∧ cs.length = j ∧ ∀ c ∈ cs, VC ns.length c) (fun H' s' => ⟨Stk.same stk_upd s', [], .nil, rfl, fun c hc => by cases hc⟩) ?_ ?_⟩⟩
      · rintro j acc H2 N N0 hj e2 hacc ⟨hst2, cs, hP, hcl, hV⟩ hN hN0
        have hDsa : D ≠ sa := fun z => by rw [z, upd_same] at hD; cases hD
        refine ⟨rfl, ?_⟩
        refine ⟨_, rfl, _, rfl, sa, (ns.length : Int), rfl, by omega, by omega, hst2, fun r1' x1 y1 z1 q0 q1 => ⟨_, _, rfl, rfl, _, rfl, sa, 3, rfl, by decide, by decide, stk_upd, fun r2' x2 y2 z2 q2 q3 => ⟨(by show 2 ≤ sizeLine; decide), fun p hp => ?_⟩⟩⟩
        have b3 : But sa H2 (upd (upd H2 sa (stk x1 y1 z1)) sa (stk x2 y2 z2)) := (But.refl sa H2).upd.upd
        have hst3 : Stk (upd (upd H2 sa (stk x1 y1 z1)) sa (stk x2 y2 z2)) sa := stk_upd
        have hD3 := b3 _ _ hacc hDsa
        obtain ⟨s4, hp4⟩ := new2 (.tup [.int (1 + r1'), .int r2']) hp
        have hpD : p ≠ D := fun z => by rw [z, hD3] at hp; cases hp
        refine hN _ _ (b3.trans (But.of s4)) fun H5 b5 _ => ⟨?_, cs ++ [(1 + r1', r2')], paired_snoc (Paired.mapP hP fun _ _ w => ?_) ⟨p, rfl, b5 _ _ hp4 hpD⟩, by rw [List.length_append, hcl]; rfl, ?_⟩
        · obtain ⟨x, y, z, w⟩ := hst3.same s4
          exact ⟨x, y, z, b5 _ _ w hDsa.symm⟩
        · obtain ⟨t, rfl, ww⟩ := (w.bx hst2 (Bx.of_but b3)).same s4
          exact ⟨t, rfl, b5 _ _ ww fun z => by rw [z, s4 _ _ hD3] at ww; cases ww⟩
        · intro c hc
          rcases List.mem_append.mp hc with hc | hc
          · exact hV c hc
          · rw [List.mem_singleton.mp hc]
            unfold VC
            omega
      · rintro acc H3 b3 hacc hal ⟨hst3, cs, hP, hcl, hV⟩
        have hDsa : D ≠ sa := fun z => by rw [z, upd_same] at hD; cases hD
        exact hR _ _ ⟨D, acc, cs, rfl, hDsa, (But.refl sa H).upd.trans b3, hst3, hacc, hP, by omega, by omega, hV⟩
    obtain ⟨lc, xs, cs, rfl, hlcsa, b1, hst1, hL1, hP1, hcl1, hcl, hV⟩ := hv
    have hxl : xs.length = cs.length := Paired.length hP1
    -- at
    refine ⟨_, rfl, _, rfl, _, _, rfl, .inl (SqL.of hL1), sa, (xs.length : Int), rfl, by omega, by omega, hst1, fun at_ x y z at0 at1 => ?_⟩
    have c2 : Bx sa H1 (upd H1 sa (stk x y z)) := Bx.of_but (But.refl sa H1).upd
    have b2 : But sa H (upd H1 sa (stk x y z)) := b1.upd
    have hst2 : Stk (upd H1 sa (stk x y z)) sa := stk_upd
    generalize upd H1 sa (stk x y z) = H2 at c2 b2 hst2 ⊢
    have hL2 := c2.lst hlcsa hL1
    have hP2 : Paired (PairT H2) xs cs := Paired.mapP hP1 fun _ _ w => w.bx hst1 c2
    -- wrong
    refine nxE (st_let (fun v H3 => ∃ t c, v = .ref t ∧ H3 t = some (.tup [.int c.1, .int c.2]) ∧ badC ns.length c = true ∧ But sa H2 H3 ∧ Stk H3 sa) (fun R hR => ?_) (fun v H3 hv => ?_))
    · refine ⟨(by show 2 ≤ sizeLine; decide), fun p1 hp1 => ⟨_, rfl, _, _, rfl, rfl, (by show 2 ≤ sizeLine; decide), fun p2 hp2 => ⟨_, rfl, _, rfl, (by show 2 ≤ sizeLine; decide), fun p3 hp3 => ⟨_, rfl, _, rfl, sa, 9, rfl, by decide, by decide, ?_, fun r9 x y z q0 q1 => ⟨_, _, rfl, rfl, (by show 2 ≤ sizeLine; decide), fun p4 hp4 => ⟨(by show 4 ≤ sizeLine; decide), fun l hl => ⟨_, rfl, sa, 4, rfl, by decide, by decide, ?_, fun r4 x' y' z' q2 q3 => ?_⟩⟩⟩⟩⟩⟩⟩
      · exact ((hst2.new hp1).new hp2).new hp3
      · exact Stk.new (Stk.new stk_upd hp4) hl
      · obtain ⟨s1, g1⟩ := new2 (.tup [.int 0, .int 1]) hp1
        obtain ⟨s2, g2⟩ := new2 (.tup [.int (ns.length + 1), .int 0]) hp2
        obtain ⟨s3, g3⟩ := new2 (.tup [.int ns.length, .int (-1)]) hp3
        have s123 := (s1.trans s2).trans s3
        have bb : ∀ H', But sa H' (upd H' sa (stk x y z)) := fun H' => (But.refl sa H').upd
        obtain ⟨s4, g4⟩ := new2 (.tup [.int (-1 - r9), .int 2]) hp4
        obtain ⟨s5, g5⟩ := new2 (.lst [V.ref p1, V.ref p2, V.ref p3, V.ref p4]) hl
        have s45 := s4.trans s5
        have n1 : p1 ≠ sa := fun z => hst2.ne (z ▸ hp1)
        have n2 : p2 ≠ sa := fun z => (hst2.new hp1).ne (z ▸ hp2)
        have n3 : p3 ≠ sa := fun z => ((hst2.new hp1).new hp2).ne (z ▸ hp3)
        have n4 : p4 ≠ sa := fun z => (Stk.ne stk_upd) (z ▸ hp4)
        have n5 : l ≠ sa := fun z => (Stk.ne (Stk.new stk_upd hp4)) (z ▸ hl)
        have f1 := s45 _ _ (bb _ _ _ (s3 _ _ (s2 _ _ g1)) n1)
        have f2 := s45 _ _ (bb _ _ _ (s3 _ _ g2) n2)
        have f3 := s45 _ _ (bb _ _ _ g3 n3)
        have f4 := s5 _ _ g4
        have bl := @But.upd sa _ _ (stk x' y' z') (But.refl sa (upd (upd (upd (upd (upd (upd H2 p1 (.tup [.int 0, .int 1])) p2 (.tup [.int (ns.length + 1), .int 0])) p3 (.tup [.int ns.length, .int (-1)])) sa (stk x y z)) p4 (.tup [.int (-1 - r9), .int 2])) l (.lst [V.ref p1, V.ref p2, V.ref p3, V.ref p4])))
        have bF := ((But.of s123).trans ((bb _).trans (But.of s45))).trans bl
        have hr : r4 = 0 ∨ r4 = 1 ∨ r4 = 2 ∨ r4 = 3 := by omega
        rcases hr with rfl | rfl | rfl | rfl
        · exact ⟨l, _, 0, _, rfl, rfl, SqL.of (bl _ _ g5 n5), rfl, hR _ _ ⟨p1, (0, 1), rfl, bl _ _ f1 n1, by simp [badC], bF, stk_upd⟩⟩
        · exact ⟨l, _, 1, _, rfl, rfl, SqL.of (bl _ _ g5 n5), rfl, hR _ _ ⟨p2, ((ns.length : Int) + 1, 0), rfl, bl _ _ f2 n2, by simp [badC]; omega, bF, stk_upd⟩⟩
        · exact ⟨l, _, 2, _, rfl, rfl, SqL.of (bl _ _ g5 n5), rfl, hR _ _ ⟨p3, ((ns.length : Int), -1), rfl, bl _ _ f3 n3, by simp [badC], bF, stk_upd⟩⟩
        · exact ⟨l, _, 3, _, rfl, rfl, SqL.of (bl _ _ g5 n5), rfl, hR _ _ ⟨p4, (-1 - r9, 2), rfl, bl _ _ f4 n4, by simp [badC]; omega, bF, stk_upd⟩⟩
    obtain ⟨tw, cw, rfl, htw, hbad, b3, hst3⟩ := hv
    have hL3 := b3 _ _ hL2 hlcsa
    have hP3 : Paired (PairT H3) xs cs := Paired.mapP hP2 fun _ _ w => w.bx hst2 (Bx.of_but b3)
    have ct : cutV xs none (some at_) = xs.take at_.toNat := cut_take xs (by omega)
    have cd : cutV xs (some at_) none = xs.drop at_.toNat := cut_drop xs (by omega)
    have htl : (cs.take at_.toNat).length = at_.toNat := by rw [List.length_take]; omega
    have hdl : (cs.drop at_.toNat).length ≤ 4 := by rw [List.length_drop]; omega
    have hxtl : (xs.take at_.toNat).length ≤ 4 := by rw [List.length_take]; omega
    have hxdl : (xs.drop at_.toNat).length ≤ 4 := by rw [List.length_drop]; omega
    have b3' : But sa H H3 := b2.trans b3
    -- bad
    refine st_let (fun v H4 => ∃ lb xb cb, v = .ref lb ∧ lb ≠ sa ∧ H4 lb = some (.lst xb) ∧ Paired (PairT H4) xb cb ∧ cb.length ≤ 10 ∧ fbad ns.length 1 cb = at_ + 1 ∧ But sa H3 H4 ∧ Stk H4 sa) (fun R hR => ?_) (fun v H4 hv => ?_)
    · refine ⟨_, rfl, _, rfl, _, rfl, lc, xs, rfl, SqL.of hL3, fun m1 hm1 => ?_⟩
      rw [ct]
      obtain ⟨s1, g1⟩ := new2 (.lst (xs.take at_.toNat)) hm1
      refine ⟨_, rfl, (by show 1 ≤ sizeLine; decide), fun m2 hm2 => ?_⟩
      obtain ⟨s2, g2⟩ := new2 (.lst [V.ref tw]) hm2
      refine ⟨m1, m2, _, _, rfl, rfl, s2 _ _ g1, g2, (by show _ + 1 ≤ sizeLine; exact line_of (by omega)), fun m3 hm3 => ?_⟩
      obtain ⟨s3, g3⟩ := new2 (.lst (xs.take at_.toNat ++ [V.ref tw])) hm3
      have s13 := (s1.trans s2).trans s3
      refine ⟨_, rfl, _, rfl, _, rfl, lc, xs, rfl, SqL.of (s13 _ _ hL3), fun m4 hm4 => ?_⟩
      rw [cd]
      obtain ⟨s4, g4⟩ := new2 (.lst (xs.drop at_.toNat)) hm4
      refine ⟨m3, m4, _, _, rfl, rfl, s4 _ _ g3, g4, (by rw [List.length_append]; show _ + 1 + _ ≤ sizeLine; exact line_of (by omega)), fun m5 hm5 => ?_⟩
      obtain ⟨s5, g5⟩ := new2 (.lst (xs.take at_.toNat ++ [V.ref tw] ++ xs.drop at_.toNat)) hm5
      have s15 := (s13.trans s4).trans s5
      have hst5 := hst3.same s15
      have n5 : m5 ≠ sa := fun z => (hst3.same (s13.trans s4)).ne (z ▸ hm5)
      have tw3 : PairT H3 (.ref tw) cw := ⟨tw, rfl, htw⟩
      have hP5 : Paired (PairT H3) (xs.take at_.toNat ++ [V.ref tw] ++ xs.drop at_.toNat) (cs.take at_.toNat ++ [cw] ++ cs.drop at_.toNat) := paired_app (paired_app (paired_take _ hP3) (.cons tw3 .nil)) (paired_drop _ hP3)
      have fb : ∀ r, fbad ns.length 1 (cs.take at_.toNat ++ [cw] ++ cs.drop at_.toNat ++ r) = at_ + 1 := fun r => by
        rw [List.append_assoc, List.append_assoc]
        have := fbad_app (T := ns.length) (w := cw) (r := cs.drop at_.toNat ++ r) hbad (cs.take at_.toNat) 1 fun c hc => hV c (List.mem_of_mem_take hc)
        rw [htl] at this
        show fbad ns.length 1 (cs.take at_.toNat ++ cw :: (cs.drop at_.toNat ++ r)) = _
        rw [this]
        omega
      refine ⟨_, rfl, sa, 2, rfl, by decide, by decide, hst5, fun r x y z q0 q1 => ⟨rfl, _, rfl, ?_⟩⟩
      have bs : But sa _ _ := @But.upd sa _ _ (stk x y z) (But.refl sa (upd (upd (upd (upd (upd H3 m1 (.lst (xs.take at_.toNat))) m2 (.lst [V.ref tw])) m3 (.lst (xs.take at_.toNat ++ [V.ref tw]))) m4 (.lst (xs.drop at_.toNat))) m5 (.lst (xs.take at_.toNat ++ [V.ref tw] ++ xs.drop at_.toNat))))
      have hst6 : Stk (upd (upd (upd (upd (upd (upd H3 m1 (.lst (xs.take at_.toNat))) m2 (.lst [V.ref tw])) m3 (.lst (xs.take at_.toNat ++ [V.ref tw]))) m4 (.lst (xs.drop at_.toNat))) m5 (.lst (xs.take at_.toNat ++ [V.ref tw] ++ xs.drop at_.toNat))) sa (stk x y z)) sa := stk_upd
      have b6 := (But.of s15).trans bs
      have g6 := bs _ _ g5 n5
      generalize upd (upd (upd (upd (upd (upd H3 m1 (.lst (xs.take at_.toNat))) m2 (.lst [V.ref tw])) m3 (.lst (xs.take at_.toNat ++ [V.ref tw]))) m4 (.lst (xs.drop at_.toNat))) m5 (.lst (xs.take at_.toNat ++ [V.ref tw] ++ xs.drop at_.toNat))) sa (stk x y z) = H6 at bs hst6 b6 g6 ⊢
      have hxl5 : (xs.take at_.toNat ++ [V.ref tw] ++ xs.drop at_.toNat).length ≤ 9 := by rw [List.length_append, List.length_append]; show _ + 1 + _ ≤ 9; omega
      have hcl5 : (cs.take at_.toNat ++ [cw] ++ cs.drop at_.toNat).length ≤ 9 := by rw [List.length_append, List.length_append]; show _ + 1 + _ ≤ 9; omega
      refine ite2 (fun c => ?_) (fun c => ?_)
      · refine ⟨_, rfl, (by show 2 ≤ sizeLine; decide), fun p7 hp7 => ⟨(by show 1 ≤ sizeLine; decide), fun m7 hm7 => ?_⟩⟩
        obtain ⟨s7, g7⟩ := new2 (.tup [.int 0, .int (-1)]) hp7
        obtain ⟨s8, g8⟩ := new2 (.lst [V.ref p7]) hm7
        have s78 := s7.trans s8
        refine ⟨m5, m7, _, _, rfl, rfl, s78 _ _ g6, g8, (by show _ + 1 ≤ sizeLine; exact line_of (by omega)), fun m9 hm9 => ?_⟩
        obtain ⟨s9, g9⟩ := new2 (.lst (xs.take at_.toNat ++ [V.ref tw] ++ xs.drop at_.toNat ++ [V.ref p7])) hm9
        have n9 : m9 ≠ sa := fun z => (hst6.same s78).ne (z ▸ hm9)
        refine hR _ _ ⟨m9, _, _, rfl, n9, g9, paired_app (Paired.mapP hP5 fun _ _ w => (w.bx hst3 (Bx.of_but b6)).same (s78.trans s9)) (.cons ⟨p7, rfl, s9 _ _ (s8 _ _ g7)⟩ .nil), by rw [List.length_append]; show _ + 1 ≤ 10; omega, fb [(0, -1)], b6.trans (But.of (s78.trans s9)), hst6.same (s78.trans s9)⟩
      · refine ⟨(by show 0 ≤ sizeLine; decide), fun m7 hm7 => ?_⟩
        obtain ⟨s8, g8⟩ := new2 (.lst []) hm7
        refine ⟨m5, m7, _, _, rfl, rfl, s8 _ _ g6, g8, (by show _ + 0 ≤ sizeLine; exact line_of (by omega)), fun m9 hm9 => ?_⟩
        obtain ⟨s9, g9⟩ := new2 (.lst (xs.take at_.toNat ++ [V.ref tw] ++ xs.drop at_.toNat ++ [])) hm9
        have n9 : m9 ≠ sa := fun z => (hst6.same s8).ne (z ▸ hm9)
        refine hR _ _ ⟨m9, _, _, rfl, n9, g9, paired_app (Paired.mapP hP5 fun _ _ w => (w.bx hst3 (Bx.of_but b6)).same (s8.trans s9)) .nil, by rw [List.length_append]; show _ + 0 ≤ 10; omega, fb [], b6.trans (But.of (s8.trans s9)), hst6.same (s8.trans s9)⟩
    obtain ⟨lb, xb, cb, rfl, hlbsa, hLb4, hPb4, hcbl, hfb, b4, hst4⟩ := hv
    have hL4 := b4 _ _ hL3 hlcsa
    have hP4 : Paired (PairT H4) xs cs := Paired.mapP hP3 fun _ _ w => w.bx hst3 (Bx.of_but b4)
    -- near
    refine st_let (fun v H5 => ∃ ln xn cn, v = .ref ln ∧ ln ≠ sa ∧ H5 ln = some (.lst xn) ∧ Paired (PairT H5) xn cn ∧ cn.length ≤ 10 ∧ (∀ c ∈ cn, VC ns.length c) ∧ But sa H4 H5 ∧ Stk H5 sa) (fun R hR => ?_) (fun v H5 hv => ?_)
    · refine ⟨_, rfl, _, rfl, _, rfl, lc, xs, rfl, SqL.of hL4, fun m1 hm1 => ?_⟩
      rw [ct]
      obtain ⟨s1, g1⟩ := new2 (.lst (xs.take at_.toNat)) hm1
      refine ⟨(by show 2 ≤ sizeLine; decide), fun p1 hp1 => ⟨_, rfl, (by show 2 ≤ sizeLine; decide), fun p2 hp2 => ⟨(by show 2 ≤ sizeLine; decide), fun l2 hl2 => ?_⟩⟩⟩
      obtain ⟨s2, g2⟩ := new2 (.tup [.int 1, .int 1]) hp1
      obtain ⟨s3, g3⟩ := new2 (.tup [.int ns.length, .int 0]) hp2
      obtain ⟨s4, g4⟩ := new2 (.lst [V.ref p1, V.ref p2]) hl2
      have s14 := ((s1.trans s2).trans s3).trans s4
      have hst5 := hst4.same s14
      have nl2 : l2 ≠ sa := fun z => (hst4.same ((s1.trans s2).trans s3)).ne (z ▸ hl2)
      have nm1 : m1 ≠ sa := fun z => hst4.ne (z ▸ hm1)
      have np1 : p1 ≠ sa := fun z => (hst4.same s1).ne (z ▸ hp1)
      have np2 : p2 ≠ sa := fun z => (hst4.same (s1.trans s2)).ne (z ▸ hp2)
      have g1' := s4 _ _ (s3 _ _ (s2 _ _ g1))
      have g2' := s4 _ _ (s3 _ _ g2)
      have g3' := s4 _ _ g3
      refine ⟨_, rfl, sa, 2, rfl, by decide, by decide, hst5, fun r2 x y z q0 q1 => ?_⟩
      have bs : But sa _ _ := @But.upd sa _ _ (stk x y z) (But.refl sa (upd (upd (upd (upd H4 m1 (.lst (xs.take at_.toNat))) p1 (.tup [.int 1, .int 1])) p2 (.tup [.int ns.length, .int 0])) l2 (.lst [V.ref p1, V.ref p2])))
      have hst6 : Stk (upd (upd (upd (upd (upd H4 m1 (.lst (xs.take at_.toNat))) p1 (.tup [.int 1, .int 1])) p2 (.tup [.int ns.length, .int 0])) l2 (.lst [V.ref p1, V.ref p2])) sa (stk x y z)) sa := stk_upd
      have b6 := (But.of s14).trans bs
      generalize upd (upd (upd (upd (upd H4 m1 (.lst (xs.take at_.toNat))) p1 (.tup [.int 1, .int 1])) p2 (.tup [.int ns.length, .int 0])) l2 (.lst [V.ref p1, V.ref p2])) sa (stk x y z) = H6 at bs hst6 b6 ⊢
      have f1 := bs _ _ g1' nm1
      have f2 := bs _ _ g2' np1
      have f3 := bs _ _ g3' np2
      have f4 := bs _ _ g4 nl2
      obtain ⟨p, c, hat, hp, hc⟩ : ∃ (p : Addr) (c : Int × Int), atI [V.ref p1, V.ref p2] r2 = some (.ref p) ∧ H6 p = some (.tup [.int c.1, .int c.2]) ∧ VC ns.length c := by
        have hr : r2 = 0 ∨ r2 = 1 := by omega
        rcases hr with rfl | rfl
        · exact ⟨p1, (1, 1), rfl, f2, by unfold VC; omega⟩
        · exact ⟨p2, (ns.length, 0), rfl, f3, by unfold VC; omega⟩
      have hL6 := b6 _ _ hL4 hlcsa
      refine ⟨l2, _, r2, _, rfl, rfl, SqL.of f4, hat, (by show 1 ≤ sizeLine; decide), fun m2 hm2 => ?_⟩
      obtain ⟨s2, g2⟩ := new2 (.lst [V.ref p]) hm2
      refine ⟨m1, m2, _, _, rfl, rfl, s2 _ _ f1, g2, (by show _ + 1 ≤ sizeLine; exact line_of (by omega)), fun m3 hm3 => ?_⟩
      obtain ⟨s3, g3⟩ := new2 (.lst (xs.take at_.toNat ++ [V.ref p])) hm3
      refine ⟨_, rfl, _, rfl, _, rfl, lc, xs, rfl, SqL.of ((s2.trans s3) _ _ hL6), fun m4 hm4 => ?_⟩
      rw [cd]
      obtain ⟨s4, g4⟩ := new2 (.lst (xs.drop at_.toNat)) hm4
      refine ⟨m3, m4, _, _, rfl, rfl, s4 _ _ g3, g4, (by rw [List.length_append]; show _ + 1 + _ ≤ sizeLine; exact line_of (by omega)), fun m5 hm5 => ?_⟩
      obtain ⟨s5, g5⟩ := new2 (.lst (xs.take at_.toNat ++ [V.ref p] ++ xs.drop at_.toNat)) hm5
      have s25 := ((s2.trans s3).trans s4).trans s5
      have n5 : m5 ≠ sa := fun z => (hst6.same ((s2.trans s3).trans s4)).ne (z ▸ hm5)
      have hP6 : Paired (PairT H6) xs cs := Paired.mapP hP4 fun _ _ w => w.bx hst4 (Bx.of_but b6)
      refine hR _ _ ⟨m5, _, cs.take at_.toNat ++ [c] ++ cs.drop at_.toNat, rfl, n5, g5, Paired.mapP (paired_app (paired_app (paired_take _ hP6) (.cons (⟨p, rfl, hp⟩ : PairT H6 (.ref p) c) .nil)) (paired_drop _ hP6)) fun _ _ w => w.same s25, by rw [List.length_append, List.length_append]; show _ + 1 + _ ≤ 10; omega, fun d hd => ?_, b6.trans (But.of s25), hst6.same s25⟩
      rcases List.mem_append.mp hd with hd | hd
      · rcases List.mem_append.mp hd with hd | hd
        · exact hV d (List.mem_of_mem_take hd)
        · rw [List.mem_singleton.mp hd]; exact hc
      · exact hV d (List.mem_of_mem_drop hd)
    obtain ⟨ln, xn, cn, rfl, hlnsa, hLn5, hPn5, hcnl, hVn, b5, hst5⟩ := hv
    have hLb5 := b5 _ _ hLb4 hlbsa
    have hPb5 := Paired.mapP hPb4 fun _ _ w => w.bx hst4 (Bx.of_but b5)
    have bH5 : But sa H H5 := ((b2.trans b3).trans b4).trans b5
    have T5 : LamX.Tabs (Tl K) H5 := tabs_but hT hs bH5
    have ha5 := bH5 _ _ ha hsa
    have k5 : ∀ H', Bx sa H5 H' → LamX.Tabs (Tl K) H' → Q (.bl true) H' := fun H' e t => k H' ((Bx.of_but bH5).trans e) t
    have hlb : xb.length ≤ 10 := by rw [Paired.length hPb5]; exact hcbl
    have hln : xn.length ≤ 10 := by rw [Paired.length hPn5]; exact hcnl
    clear hT ha k b1 b2 b3 b4 b5 b3' c2 hst1 hst2 hst3 hst4 hL1 hL2 hL3 hL4 hP1 hP2 hP3 hP4 hLb4 hPb4
    -- what a row of tuples keeps
    have keepB : ∀ H', Bx sa H5 H' → SqL K H' lb xb ∧ PairsR K H' xb cb := fun H' e => ⟨SqL.of (e.lst hlbsa hLb5), Paired.mapP hPb5 fun _ _ w => (w.bx hst5 e).r⟩
    have keepN : ∀ H', Bx sa H5 H' → SqL K H' ln xn ∧ PairsR K H' xn cn := fun H' e => ⟨SqL.of (e.lst hlnsa hLn5), Paired.mapP hPn5 fun _ _ w => (w.bx hst5 e).r⟩
    have keepA : ∀ H', Bx sa H5 H' → SqL K H' a (ns.map V.int) := fun H' e => SqL.of (e.lst hsa ha5)
    have eBC : ErrC K (cBC K) "BadCalls" "row" := .inr (.inr ⟨rfl, rfl, rfl⟩)
    have eTM : ErrC K (cTM K) "TooMany" "what" := .inl ⟨rfl, rfl, rfl⟩
    have eBS : ErrC K (cBS K) "BadSetting" "what" := .inr (.inl ⟨rfl, rfl, rfl⟩)
    refine ref_step (fl := "row") (.int (at_ + 1)) T5 eBC (.inl ⟨_, rfl⟩) (fun H1 Q q => ⟨_, rfl, _, _, rfl, rfl, q⟩) (fun H2 Q' e2 => ?_) (fun H6 e6 T6 => ⟨_, rfl, iteF ?_⟩)
    · obtain ⟨kb1, kb2⟩ := keepB H2 (Bx.of_ext e2)
      refine ⟨_, rfl, _, rfl, a, lb, ns, xb, cb, rfl, keepA H2 (Bx.of_ext e2), kb1, kb2, by omega, by omega, (fun z => by omega), (fun _ z => by omega), fun _ _ _ => ?_, fun _ _ z => absurd z (by omega)⟩
      rw [hfb]
      exact rz_er (Same.refl _)
    have B6 : Bx sa H5 H6 := Bx.of_ext e6
    refine ref_step (fl := "row") (.int (at_ + 1)) T6 eBC (.inl ⟨_, rfl⟩) (fun H1 Q q => ⟨_, rfl, _, _, rfl, rfl, q⟩) (fun H2 Q' e2 => ?_) (fun H7 e7 T7 => ⟨_, rfl, iteF ?_⟩)
    · obtain ⟨kb1, kb2⟩ := keepB H2 (B6.trans (Bx.of_ext e2))
      refine ⟨_, rfl, _, rfl, ns.length, lb, xb, cb, rfl, kb1, kb2, by omega, by omega, by omega, (fun z => by omega), fun _ _ => ?_, fun _ z => absurd z (by omega)⟩
      rw [hfb]
      exact rz_er (Same.refl _)
    have B7 := B6.trans (Bx.of_ext e7)
    -- near
    obtain ⟨kn1, kn2⟩ := keepN H7 B7
    refine ⟨_, rfl, _, rfl, a, ln, ns, xn, cn, rfl, keepA H7 B7, kn1, kn2, by omega, by omega, (fun z => by omega), (fun _ z => by omega), (fun _ _ z => absurd (fbad_good hVn 1) z), fun _ _ _ H8 s8 => ?_⟩
    have B8 := B7.trans (Bx.of_same s8)
    obtain ⟨kn1, kn2⟩ := keepN H8 B8
    refine ⟨_, rfl, _, rfl, a, ln, ns, xn, cn, rfl, keepA H8 B8, kn1, kn2, by omega, by omega, fun H9 s9 => ⟨.int _, .int _, rfl, .inl ⟨_, rfl, rfl⟩, fun H10 s10 => ⟨_, rfl, iteF ?_⟩⟩⟩
    have B10 := B8.trans (Bx.of_same (s9.trans s10))
    have T10 := T7.ext (s8.trans (s9.trans s10))
    -- reach
    have hst10 : Stk H10 sa := by
      obtain ⟨x, y, z, w⟩ := hst5
      exact ⟨x, y, z, (s8.trans (s9.trans s10)) _ _ (ext_lst e7 (ext_lst e6 w))⟩
    refine ⟨_, rfl, _, rfl, _, _, rfl, rfl, (by unfold CPow; decide), sa, _, rfl, (by decide), (by decide), hst10, fun rr x y z r0 r1 => ⟨_, _, rfl, rfl, ?_⟩⟩
    have b11 : But sa H10 (upd H10 sa (stk x y z)) := (But.refl sa H10).upd
    have B11 := B10.trans (Bx.of_but b11)
    have T11 := tabs_but T10 hst10 b11
    generalize upd H10 sa (stk x y z) = H11 at b11 B11 T11 ⊢
    refine nxE ?_
    refine ref_step (fl := "row") (.int 1) T11 eBC (.inl ⟨_, rfl⟩) (fun H1 Q q => q) (fun H2 Q' e2 => ?_) (fun H12 e12 T12 => ⟨_, rfl, iteF ?_⟩)
    · exact ⟨_, rfl, _, rfl, a, ns, -1 - rr, rfl, keepA H2 (B11.trans (Bx.of_ext e2)), by omega, (fun z => by omega), (fun _ _ => rz_er (Same.refl _)), (fun _ z => by omega), fun _ z => by omega⟩
    have B12 := B11.trans (Bx.of_ext e12)
    refine ref_step (fl := "what") (.str "days") T12 eTM (.inr ⟨_, rfl⟩) (fun H1 Q q => q) (fun H2 Q' e2 => ?_) (fun H13 e13 T13 => ⟨_, rfl, iteF ?_⟩)
    · refine ⟨(by show 1 ≤ sizeLine; decide), fun p hp => ⟨p, 25, _, rfl, rfl, upd_same, by decide, by decide, (by show 1 * 25 ≤ sizeLine; decide), fun m hm => ?_⟩⟩
      obtain ⟨s1, _⟩ := new2 (.lst [V.int 0]) hp
      obtain ⟨s2, g2⟩ := new2 (.lst (List.replicate (25 : Int).toNat [V.int 0]).flatten) hm
      rw [rep_ints] at g2
      exact ⟨_, rfl, m, List.replicate 25 0, -1 - rr, rfl, SqL.of g2, (by decide), (fun _ => rz_er (s1.trans s2)), (fun z => absurd z (by decide)), (fun z => absurd z (by decide)), fun z => absurd z (by decide)⟩
    have B13 := B12.trans (Bx.of_ext e13)
    refine ref_step (fl := "what") (.str "days") T13 eTM (.inr ⟨_, rfl⟩) (fun H1 Q q => q) (fun H2 Q' e2 => ?_) (fun H14 e14 T14 => ⟨_, rfl, iteF ?_⟩)
    · refine ⟨(by show 1 ≤ sizeLine; decide), fun p hp => ⟨p, 25, _, rfl, rfl, upd_same, by decide, by decide, (by show 1 * 25 ≤ sizeLine; decide), fun m hm => ?_⟩⟩
      obtain ⟨s1, _⟩ := new2 (.lst [V.int 0]) hp
      obtain ⟨s2, g2⟩ := new2 (.lst (List.replicate (25 : Int).toNat [V.int 0]).flatten) hm
      rw [rep_ints] at g2
      refine ⟨(by show 2 ≤ sizeLine; decide), fun t ht => ⟨(by show 1 ≤ sizeLine; decide), fun l hl => ⟨l, 61, _, rfl, rfl, upd_same, by decide, by decide, (by show 1 * 61 ≤ sizeLine; decide), fun m2 hm2 => ?_⟩⟩⟩
      obtain ⟨s3, g3⟩ := new2 (.tup [V.int 0, V.int 0]) ht
      obtain ⟨s4, _⟩ := new2 (.lst [V.ref t]) hl
      obtain ⟨s5, g5⟩ := new2 (.lst (List.replicate (61 : Int).toNat [V.ref t]).flatten) hm2
      have s35 := (s3.trans s4).trans s5
      exact ⟨m, m2, List.replicate 25 0, _, List.replicate 61 (0, 0), rfl, SqL.of (s35 _ _ g2), SqL.of g5, paired_rep (⟨t, rfl, .inl (SqT.of (s5 _ _ (s4 _ _ g3)))⟩ : PairR K _ (.ref t) (0, 0)) 61, (by rw [rep_len]; decide), (by decide), (fun _ => rz_er ((s1.trans s2).trans s35)), (fun z => absurd z (by decide)), (fun z => absurd z (by decide)), fun z => absurd z (by decide)⟩
    have B14 := B13.trans (Bx.of_ext e14)
    refine ref_step (fl := "what") (.str "calls") T14 eTM (.inr ⟨_, rfl⟩) (fun H1 Q q => q) (fun H2 Q' e2 => ?_) (fun H15 e15 T15 => ⟨_, rfl, iteF ?_⟩)
    · refine ⟨_, rfl, (by show 2 ≤ sizeLine; decide), fun t ht => ⟨(by show 1 ≤ sizeLine; decide), fun l hl => ⟨l, 61, _, rfl, rfl, upd_same, by decide, by decide, (by show 1 * 61 ≤ sizeLine; decide), fun m2 hm2 => ?_⟩⟩⟩
      obtain ⟨s3, g3⟩ := new2 (.tup [V.int 0, V.int 0]) ht
      obtain ⟨s4, _⟩ := new2 (.lst [V.ref t]) hl
      obtain ⟨s5, g5⟩ := new2 (.lst (List.replicate (61 : Int).toNat [V.ref t]).flatten) hm2
      have s35 := (s3.trans s4).trans s5
      exact ⟨a, m2, ns, _, List.replicate 61 (0, 0), rfl, s35.seq (keepA H2 (B14.trans (Bx.of_ext e2))), SqL.of g5, paired_rep (⟨t, rfl, .inl (SqT.of (s5 _ _ (s4 _ _ g3)))⟩ : PairR K _ (.ref t) (0, 0)) 61, (by rw [rep_len]; decide), (by omega), (fun z => by omega), (fun _ _ => rz_er s35), (fun _ z => absurd z (by decide)), fun _ z => absurd z (by decide)⟩
    have B15 := B14.trans (Bx.of_ext e15)
    -- a list that just fits
    refine ⟨(by show 1 ≤ sizeLine; decide), fun p hp => ⟨p, 23, _, rfl, rfl, upd_same, by decide, by decide, (by show 1 * 23 ≤ sizeLine; decide), fun m hm => ⟨(by show 1 ≤ sizeLine; decide), fun q hq => ?_⟩⟩⟩
    obtain ⟨s1, _⟩ := new2 (.lst [V.int 0]) hp
    obtain ⟨s2, g2⟩ := new2 (.lst (List.replicate (23 : Int).toNat [V.int 0]).flatten) hm
    obtain ⟨s3, g3⟩ := new2 (.lst [V.int 3]) hq
    refine ⟨m, q, _, _, rfl, rfl, s3 _ _ g2, g3, (by rw [rep_len]; show 23 + 1 ≤ sizeLine; decide), fun m2 hm2 => ?_⟩
    obtain ⟨s4, g4⟩ := new2 (.lst ((List.replicate (23 : Int).toNat [V.int 0]).flatten ++ [V.int 3])) hm2
    have s14 := ((s1.trans s2).trans s3).trans s4
    refine ⟨(by show 2 ≤ sizeLine; decide), fun t ht => ⟨(by show 1 ≤ sizeLine; decide), fun l hl => ⟨l, 59, _, rfl, rfl, upd_same, by decide, by decide, (by show 1 * 59 ≤ sizeLine; decide), fun m5 hm5 => ⟨(by show 2 ≤ sizeLine; decide), fun t6 ht6 => ⟨(by show 1 ≤ sizeLine; decide), fun l7 hl7 => ?_⟩⟩⟩⟩⟩
    obtain ⟨s5, g5⟩ := new2 (.tup [V.int 24, V.int 0]) ht
    obtain ⟨s6, g6⟩ := new2 (.lst [V.ref t]) hl
    obtain ⟨s7, g7⟩ := new2 (.lst (List.replicate (59 : Int).toNat [V.ref t]).flatten) hm5
    obtain ⟨s8', g8⟩ := new2 (.tup [V.int 1, V.int 1]) ht6
    obtain ⟨s9', g9⟩ := new2 (.lst [V.ref t6]) hl7
    have s89 := s8'.trans s9'
    refine ⟨m5, l7, _, _, rfl, rfl, s89 _ _ g7, g9, (by rw [rep_len]; show 59 + 1 ≤ sizeLine; decide), fun m10 hm10 => ?_⟩
    obtain ⟨s10', g10⟩ := new2 (.lst ((List.replicate (59 : Int).toNat [V.ref t]).flatten ++ [V.ref t6])) hm10
    have s510 := ((s5.trans s6).trans s7).trans (s89.trans s10')
    have gn := s510 _ _ g4
    have en : (List.replicate (23 : Int).toNat [V.int 0]).flatten ++ [V.int 3] = (List.replicate 23 (0 : Int) ++ [3]).map V.int := by
      rw [rep_ints, List.map_append]; rfl
    rw [en] at gn
    have hu : uns (List.replicate 59 (24, 0) ++ [(1, 1)]) 1 (List.replicate 23 (0 : Int) ++ [3]) = 0 := by decide +kernel
    have hf : fbad ((List.replicate 23 (0 : Int) ++ [3]).length : Nat) 1 (List.replicate 59 (24, 0) ++ [(1, 1)]) = 0 := by decide +kernel
    have hp59 : PairR K (upd (upd (upd (upd (upd (upd (upd (upd (upd (upd H15 p (HO.lst [V.int 0])) m (HO.lst (List.replicate (23 : Int).toNat [V.int 0]).flatten)) q (HO.lst [V.int 3])) m2 (HO.lst ((List.replicate (23 : Int).toNat [V.int 0]).flatten ++ [V.int 3]))) t (HO.tup [V.int 24, V.int 0])) l (HO.lst [V.ref t])) m5 (HO.lst (List.replicate (59 : Int).toNat [V.ref t]).flatten)) t6 (HO.tup [V.int 1, V.int 1])) l7 (HO.lst [V.ref t6])) m10 (HO.lst ((List.replicate (59 : Int).toNat [V.ref t]).flatten ++ [V.ref t6]))) (.ref t) (24, 0) := ⟨t, rfl, .inl (SqT.of (s10' _ _ (s89 _ _ (s7 _ _ (s6 _ _ g5)))))⟩
    refine ⟨m2, m10, List.replicate 23 0 ++ [3], _, List.replicate 59 (24, 0) ++ [(1, 1)], rfl, SqL.of gn, SqL.of g10, paired_app (paired_rep hp59 59) (.cons ⟨t6, rfl, .inl (SqT.of (s10' _ _ (s9' _ _ g8)))⟩ .nil), (by rw [List.length_append, rep_len]; show 59 + 1 ≤ 1000; decide), (by decide), (fun z => absurd z (by decide)), (fun _ z => absurd z (by decide)), (fun _ _ z => absurd hf z), fun _ _ _ H16 s16 => ⟨.int _, .int 0, rfl, .inl ⟨0, by rw [hu], rfl⟩, fun H17 s17 => ⟨_, rfl, iteF ?_⟩⟩⟩
    have sAll := (s14.trans s510).trans (s16.trans s17)
    have B17 := B15.trans (Bx.of_same sAll)
    have T17 := T15.ext sAll
    refine ref_step (fl := "what") (.str "days") T17 eTM (.inr ⟨_, rfl⟩) (fun H1 Q q => q) (fun H2 Q' e2 => ?_) (fun H18 e18 T18 => ⟨_, rfl, iteF ?_⟩)
    · refine ⟨(by show 1 ≤ sizeLine; decide), fun p hp => ⟨p, 25, _, rfl, rfl, upd_same, by decide, by decide, (by show 1 * 25 ≤ sizeLine; decide), fun m hm => ?_⟩⟩
      obtain ⟨s1, _⟩ := new2 (.lst [V.int 0]) hp
      obtain ⟨s2, g2⟩ := new2 (.lst (List.replicate (25 : Int).toNat [V.int 0]).flatten) hm
      rw [rep_ints] at g2
      exact ⟨m, List.replicate 25 0, rfl, SqL.of g2, (by decide), (fun _ => rz_er (s1.trans s2)), fun z => absurd z (by decide)⟩
    have B18 := B17.trans (Bx.of_ext e18)
    refine ref_step (fl := "what") (.str "days") T18 eTM (.inr ⟨_, rfl⟩) (fun H1 Q q => q) (fun H2 Q' e2 => ?_) (fun H19 e19 T19 => ⟨_, rfl, iteF ?_⟩)
    · refine ⟨_, rfl, (by show 1 ≤ sizeLine; decide), fun p hp => ⟨p, 25, _, rfl, rfl, upd_same, by decide, by decide, (by show 1 * 25 ≤ sizeLine; decide), fun m hm => ⟨(by show 2 ≤ sizeLine; decide), fun b hb => ?_⟩⟩⟩
      obtain ⟨s1, _⟩ := new2 (.lst [V.int 0]) hp
      obtain ⟨s2, g2⟩ := new2 (.lst (List.replicate (25 : Int).toNat [V.int 0]).flatten) hm
      obtain ⟨s3, g3⟩ := new2 (.lst [V.ref a, V.ref m]) hb
      rw [rep_ints] at g2
      have s13 := (s1.trans s2).trans s3
      exact ⟨b, _, [ns, List.replicate 25 0], rfl, SqL.of g3, .cons ⟨a, rfl, .inl (s13.seq (keepA H2 (B18.trans (Bx.of_ext e2))))⟩ (.cons ⟨m, rfl, .inl (SqL.of (s3 _ _ g2))⟩ .nil), (by show 2 ≤ 1000; decide), (by show 0 < 2; decide), (fun _ => rz_er s13), (fun z => absurd (z (List.replicate 25 0) (by simp)) (by decide)), fun z => absurd (z (List.replicate 25 0) (by simp)) (by decide)⟩
    have B19 := B18.trans (Bx.of_ext e19)
    refine ref_step (fl := "what") (.str "days") T19 eBS (.inr ⟨_, rfl⟩) (fun H1 Q q => q) (fun H2 Q' e2 => ?_) (fun H20 e20 T20 => k5 _ (B19.trans (Bx.of_ext e20)) T20)
    have B2 := B19.trans (Bx.of_ext e2)
    refine ⟨_, rfl, _, rfl, _, rfl, _, rfl, a, _, rfl, keepA H2 B2, fun m hm => ?_⟩
    have c1 : cutV (ns.map V.int) (some 1) none = (ns.drop 1).map V.int := by
      have := cut_drop (ns.map V.int) (z := 1) (k := 1) rfl
      rw [this, map_drop]
    rw [c1]
    obtain ⟨s1, g1⟩ := new2 (.lst ((ns.drop 1).map V.int)) hm
    refine ⟨(by show 3 ≤ sizeLine; decide), fun b hb => ?_⟩
    obtain ⟨s3, g3⟩ := new2 (.lst [V.ref a, V.ref a, V.ref m]) hb
    have s13 := s1.trans s3
    have ra : RowR K (upd (upd H2 m (.lst ((ns.drop 1).map V.int))) b (.lst [V.ref a, V.ref a, V.ref m])) (.ref a) ns := ⟨a, rfl, .inl (s13.seq (keepA H2 B2))⟩
    refine ⟨b, _, [ns, ns, ns.drop 1], rfl, SqL.of g3, .cons ra (.cons ra (.cons ⟨m, rfl, .inl (SqL.of (s3 _ _ g1))⟩ .nil)), (by show 3 ≤ 1000; decide), (by show 0 < 3; decide), (fun ⟨r, hr, h⟩ => ?_), (fun _ _ => rz_er s13), fun _ z => ?_⟩
    · have hr : r = ns ∨ r = ns ∨ r = ns.drop 1 := by simpa using hr
      rcases hr with rfl | rfl | rfl
      · omega
      · omega
      · rw [List.length_drop] at h; omega
    · have := z (ns.drop 1) (by simp)
      rw [List.length_drop] at this
      have e : ([ns, ns, ns.drop 1] : List (List Int)).headD [] = ns := rfl
      rw [e] at this
      omega
end
end K16
end
section
set_option maxRecDepth 100000
set_option maxHeartbeats 4000000
namespace K16
open PySem PySem.Spec PyProof.Rows L2
theorem ext_bx {sa : Addr} {H H1 H2 : Hp} (e : LamX.ExtN H H1) (n : H sa = none) (b : Bx sa H1 H2) : LamX.ExtN H H2 := fun c o h p => b c o (e c o h p) p (ne_of_none h n)
theorem ext_new {sa : Addr} {H H1 H1' H2 : Hp} (e : LamX.ExtN H H1) (n : H1 sa = none) (s : Same H1 H1') (b : Bx sa H1' H2) : LamX.ExtN H H2 := fun c o h p => b c o (s _ _ (e c o h p)) p (ne_of_none (e c o h p) n)
theorem ext_seq {K : PySem.W.Frag} {H H' : Hp} {a : Addr} {xs : List V} (e : LamX.ExtN H H') (h : SqL K H a xs) : SqL K H' a xs := by
  rcases h with (h | ⟨o, h⟩) | h
  · exact .inl (.inl (e _ _ h fun _ z => by cases z))
  · exact .inl (.inr ⟨o, e _ _ h fun _ z => by cases z⟩)
  · exact .inr h
theorem shaped_two {n1 n2 : List Int} (h1 : ∀ n ∈ n1, Sm n) (h2 : ∀ n ∈ n2, Sm n) : SeqAt.shaped (.list [.list (n1.map PyData.int), .list (n2.map PyData.int)]) = true := by
  have g : ∀ n : List Int, (∀ x ∈ n, Sm x) → GoodD (.list (n.map PyData.int)) 1 (34 * (n1.length + n2.length + n.length)) := fun n h => by
    have := (good_all (n.map PyData.int) (dp := 0) (wt := 33) fun d hd => by
      obtain ⟨x, hx, rfl⟩ := List.mem_map.mp hd
      exact good_int (h x hx)).list
    rw [List.length_map] at this
    exact ⟨this.show_, this.dict, this.depth, this.lay, Nat.le_trans this.weight (Nat.mul_le_mul_left _ (by omega)), this.short⟩
  have g1 := g n1 h1
  have g2 := g n2 h2
  have := (good_all [PyData.list (n1.map PyData.int), PyData.list (n2.map PyData.int)] (dp := 1) (wt := 34 * (n1.length + n2.length + n1.length + n2.length)) fun d hd => by
    rcases List.mem_cons.mp hd with rfl | hd
    · exact ⟨g1.show_, g1.dict, g1.depth, g1.lay, Nat.le_trans g1.weight (Nat.mul_le_mul_left _ (by omega)), g1.short⟩
    · rw [List.mem_singleton.mp hd]
      exact ⟨g2.show_, g2.dict, g2.depth, g2.lay, Nat.le_trans g2.weight (Nat.mul_le_mul_left _ (by omega)), g2.short⟩).list
  exact this.shaped (by decide)
theorem allmax_one {n ms : List Int} (hl : ms.length = n.length) (h : AllMax [n] ms) : ms = n := by
  apply List.ext_getElem? 
  intro i
  rcases Nat.lt_or_ge i ms.length with c | c
  · obtain ⟨m, hm⟩ := ints_ix c
    obtain ⟨⟨r, hr, hri⟩, _⟩ := h i m hm
    rw [List.mem_singleton.mp hr] at hri
    rw [hm, hri]
  · rw [List.getElem?_eq_none c, List.getElem?_eq_none (by omega)]
theorem allmax_two {n1 n2 ms bs : List Int} (hl : ms.length = n1.length) (h2 : n2.length = n1.length) (hb : bs.length = n1.length) (hbs : ∀ (i : Nat) (a b : Int), n1[i]? = some a → n2[i]? = some b → bs[i]? = some (max a b)) (h : AllMax [n1, n2] ms) : ms = bs := by
  apply List.ext_getElem?
  intro i
  rcases Nat.lt_or_ge i ms.length with c | c
  · obtain ⟨m, hm⟩ := ints_ix c
    obtain ⟨a, ha⟩ := ints_ix (ns := n1) (i := i) (by omega)
    obtain ⟨b, hb'⟩ := ints_ix (ns := n2) (i := i) (by omega)
    obtain ⟨⟨r, hr, hri⟩, hmax⟩ := h i m hm
    have h1 := hmax n1 (by simp) a ha
    have h3 := hmax n2 (by simp) b hb'
    have hm' : m = max a b := by
      have hr : r = n1 ∨ r = n2 := by simpa using hr
      rcases hr with rfl | rfl
      · rw [ha] at hri; cases hri; omega
      · rw [hb'] at hri; cases hri; omega
    rw [hm, hbs i a b ha hb', hm']
  · rw [List.getElem?_eq_none c, List.getElem?_eq_none (by omega)]
section
variable {P : Program} {w : World} {K : PySem.W.Frag} {mg : Str → Option Value} {base : Heap}
def spLaw (K : PySem.W.Frag) : Sp := fun vs H Q _ => ∃ (a : Addr) (ns : List Int), vs = [.ref a] ∧ SqL K H a (ns.map V.int) ∧ ns.length ≤ 63 ∧ LamX.Tabs (Tl K) H ∧ ∀ H', Q (.bl true) H'
theorem fn_law (T : Txt w K mg) (TB : TabsB K base mg) {f : Addr} {fd : FuncData} (F : FnP K "law" s_law f fd) (hc : fd.code = .ref (He.codeOf K ("law", none))) : FnG P w K mg base 9 f fd ["script"] (spLaw K) := by
  refine LamX.fnG_defC F hc sc_law (fun vs H Q E h => ?_) (fun f A outer s H vs Q hr hgd h => ?_)
  · obtain ⟨a, ns, rfl, _⟩ := h
    rfl
  · obtain ⟨a, ns, rfl, hS, hl, hT, k⟩ := h
    let E : XK := E0
    have ok__law_matches := fun (T : Txt w K mg) => ok_mt1 (P := P) (base := base) T
    have ok__law_k16_good := fun (T : Txt w K mg) => K16.ok__law_k16_good (P := P) T TB
    have ok__law_k16_served := fun (T : Txt w K mg) => K16.ok__law_k16_served (P := P) T TB
    have ok__law_k16_refused := fun (T : Txt w K mg) => K16.ok__law_k16_refused (P := P) T TB
    refine ⟨_, (pss_cons (ps_set (i := 1) sc_law.nd rfl (by first | exact Or.inl rfl | exact Or.inr rfl) (pe_ok (ok__law_stock T) (hr.mono (by first | decide | omega)) rfl pass0 (pa_cons (pv 0) (pa_cons pe_int pa_nil))))
      (pss_cons (ps_set (i := 2) sc_law.nd rfl (by first | exact Or.inl rfl | exact Or.inr rfl) (pe_ifExp (pt_cmpR op_eq (pe_ok (ok__law_draw T) (hr.mono (by first | decide | omega)) rfl pass0 (pa_cons (pv 1) (pa_cons pe_int pa_nil))) pe_int (nomark _)) pe_int (pe_op op_add pe_int (pe_ok (ok__law_draw T) (hr.mono (by first | decide | omega)) rfl pass0 (pa_cons (pv 1) (pa_cons pe_int pa_nil))))))
      (pss_cons (ps_set (i := 3) sc_law.nd rfl (by first | exact Or.inl rfl | exact Or.inr rfl) (pe_ok (ok__law_e_drawn_needs T) (hr.mono (by first | decide | omega)) rfl pass0 (pa_cons (pv 1) (pa_cons (pv 2) pa_nil))))
      (pss_cons (ps_set (i := 4) sc_law.nd rfl (by first | exact Or.inl rfl | exact Or.inr rfl) (pe_ok (ok__law_e_drawn_needs T) (hr.mono (by first | decide | omega)) rfl pass0 (pa_cons (pe_ok (ok__law_stock T) (hr.mono (by first | decide | omega)) rfl pass0 (pa_cons (pv 0) (pa_cons pe_int pa_nil))) (pa_cons (pv 2) pa_nil))))
      (pss_cons (ps_set (i := 5) sc_law.nd rfl (by first | exact Or.inl rfl | exact Or.inr rfl) (pe_ifExp (pt_cmpR op_gt (pe_ok (ok__law_draw T) (hr.mono (by first | decide | omega)) rfl pass0 (pa_cons (pv 1) (pa_cons pe_int pa_nil))) pe_int (nomark _)) (pe_ok (ok__law_draw T) (hr.mono (by first | decide | omega)) rfl pass0 (pa_cons (pv 1) (pa_cons pe_int pa_nil))) (pe_op op_add (pv 2) (pe_ok (ok__law_draw T) (hr.mono (by first | decide | omega)) rfl pass0 (pa_cons (pv 1) (pa_cons (pe_op op_pow pe_int pe_int) pa_nil))))))
      (pss_cons (ps_for PassesOwn.never rfl (pi_listK (K := K) rfl (pe_lst (pa_cons (pv 3) (pa_cons (pv 4) (pa_cons (pv 3) pa_nil))))) (pg_name (i := 6) sc_law.nd rfl (by first | exact Or.inl rfl | exact Or.inr rfl))
        (pss_one (ps_if (pt_not (pt_val (pe_ok (ok__law_k16_good T) (hr.mono (by first | decide | omega)) rfl pass0 (pa_cons (pv 6) (pa_cons (pv 5) pa_nil))))) (pss_one (ps_ret pe_bl)) pss_nil)))
      (pss_cons (ps_if (pt_not (pt_val (pe_okG (ok__law_k16_served T) (hr.mono (by first | decide | omega)) hgd rfl (pa_cons (pe_ok (ok__law_stock T) (hr.mono (by first | decide | omega)) rfl pass0 (pa_cons (pv 0) (pa_cons pe_int pa_nil))) (pa_cons (pv 3) pa_nil))))) (pss_one (ps_ret pe_bl)) pss_nil)
      (pss_cons (ps_setLc (i := 8) (own := [("day", 7)]) rfl sc_law.nd rfl rfl (sw_true rfl rfl rfl (by decide +kernel)) (pi_range1 rfl (n_range T) (pa_cons (pv 2) pa_nil)) (blkOk_by (N := ["script", "stock", "days", "one", "other", "reach", "needs", "day", "both", "given"]) (sc := defScope s_law) (by decide +kernel)) (fun _ _ _ _ _ => (pg_name (i := 7) sc_law.nd rfl (by first | exact Or.inl rfl | exact Or.inr rfl))) (fun _ _ _ _ _ => pts_nil) (fun _ _ _ _ _ => (pe_callB (call_max2 rfl) rfl (n_max T) (by decide +kernel) (pa_cons (pe_ix (ix_seqK (K := K) rfl) (pv 3) (pv 7) (fun _ _ => rfl)) (pa_cons (pe_ix (ix_seqK (K := K) rfl) (pv 4) (pv 7) (fun _ _ => rfl)) pa_nil)))))
      (pss_cons (ps_set (i := 9) sc_law.nd rfl (by first | exact Or.inl rfl | exact Or.inr rfl) (pe_lst (pa_cons (pe_callTy (list_ofK (K := K) rfl) rfl (n_list T) (by decide +kernel) (pa_cons (pv 3) pa_nil)) (pa_cons (pe_callTy (list_ofK (K := K) rfl) rfl (n_list T) (by decide +kernel) (pa_cons (pv 4) pa_nil)) pa_nil))))
      (pss_cons (ps_if (PW.pt (pw_or (pt_not (pt_val (pe_twice (cc := (He.cT K ("law", none)).1) (P := (He.cT K ("law", none)).2) T (hr.mono (by decide)) rfl (TB _ (List.mem_of_getElem? (i := 3) rfl)) rfl (List.mem_of_getElem? (i := 3) rfl) (LamX.lamS_by (by kernel_rfl)) rfl (fun _ _ _ _ _ => rfl) (fun A outer s H E f c' hr => (pe_ok (ok_common_needs T) (hr.mono (by first | decide | omega)) rfl passL (pa_cons (pv 9) pa_nil))) (pa_cons (pv 8) pa_nil)))) (pw_or1 (pt_cmpR (neDK (K := K) rfl hr.units) (pv 9) (pe_lst (pa_cons (pv 3) (pa_cons (pv 4) pa_nil))) (nomark _))))) (pss_one (ps_ret pe_bl)) pss_nil)
      (pss_cons (ps_if (pt_not (pt_val (pe_ok (ok__law_matches T) (hr.mono (by first | decide | omega)) rfl pass0 (pa_cons (pe_ok (ok_common_needs T) (hr.mono (by first | decide | omega)) rfl passL (pa_cons (pe_lst (pa_cons (pe_callTy call_tuple_of rfl (n_tuple T) (by decide +kernel) (pa_cons (pv 3) pa_nil)) pa_nil)) pa_nil)) (pa_cons (pv 3) pa_nil))))) (pss_one (ps_ret pe_bl)) pss_nil)
      (pss_one (ps_ret (pe_ok (ok__law_k16_refused T) (hr.mono (by first | decide | omega)) rfl pass0 (pa_cons (pe_ok (ok__law_stock T) (hr.mono (by first | decide | omega)) rfl pass0 (pa_cons (pv 0) (pa_cons pe_int pa_nil))) (pa_cons (pv 4) pa_nil)))))))))))))))), ?_⟩
    refine ⟨_, rfl, a, ns, 0, rfl, hS, hl, by decide, by decide, fun sa H1 hsa s1 hst1 => ?_⟩
    refine nxE (st_let (fun v H2 => ∃ d, v = .int d ∧ 3 ≤ d ∧ d ≤ 24 ∧ But sa H1 H2 ∧ Stk H2 sa) (fun R hR => ?_) (fun v H2 hv => ?_))
    · refine ⟨_, rfl, sa, 8, rfl, by decide, by decide, hst1, fun r x y z r0 r1 => ⟨rfl, _, rfl, ?_⟩⟩
      refine ite2 (fun c => ?_) (fun c => ?_)
      · exact hR _ _ ⟨_, rfl, by decide, by decide, (But.refl sa H1).upd, stk_upd⟩
      · exact ⟨_, rfl, sa, 6, rfl, by decide, by decide, stk_upd, fun r' x y z r0 r1 => ⟨_, _, rfl, rfl, hR _ _ ⟨_, rfl, by omega, by omega, (But.refl sa H1).upd.upd, stk_upd⟩⟩⟩
    obtain ⟨d, rfl, hd0, hd1, b2, hst2⟩ := hv
    have x2 : LamX.ExtN H H2 := ext_bx (ext_of s1) hsa (Bx.of_but b2)
    have T2 := tabs_but (hT.ext s1) hst1 b2
    refine ⟨_, rfl, _, rfl, sa, d, rfl, by omega, by omega, hst2, fun l1 H3 n1 hl1 b3 hst3 hg3 hlen1 hbd1 => ?_⟩
    have l1sa : l1 ≠ sa := fun z => hst2.ne (z ▸ hl1)
    have x3 := ext_bx x2 hsa (Bx.of_but b3)
    have T3 := tabs_but T2 hst2 b3
    refine nxE ⟨_, rfl, a, ns, 1, rfl, ext_seq x3 hS, hl, by decide, by decide, fun sb H4 hsb s4 hst4 => ⟨_, rfl, sb, d, rfl, by omega, by omega, hst4, fun l2 H5 n2 hl2 b5 hst5 hg5 hlen2 hbd2 => ?_⟩⟩
    have sb1 : sb ≠ l1 := fun z => by rw [z, hg3] at hsb; cases hsb
    have x5 := ext_new x3 hsb s4 (Bx.of_but b5)
    have sab : sa ≠ sb := fun z => hst3.ne (z ▸ hsb)
    have hst5a : Stk H5 sa := by
      obtain ⟨x, y, z, w⟩ := hst3
      exact ⟨x, y, z, b5 _ _ (s4 _ _ w) sab⟩
    have T5 := tabs_but (T3.ext s4) hst4 b5
    have l2sa : l2 ≠ sa := fun z => by
      obtain ⟨x, y, w', w⟩ := hst3
      rw [z, s4 _ _ w] at hl2
      cases hl2
    have l12 : l1 ≠ l2 := fun z => by rw [← z, s4 _ _ hg3] at hl2; cases hl2
    have g1 := b5 _ _ (s4 _ _ hg3) sb1.symm
    refine nxE (st_let (fun v H6 => ∃ r, v = .int r ∧ 0 ≤ r ∧ But sa H5 H6) (fun R hR => ?_) (fun v H6 hv => ?_))
    · refine ⟨_, rfl, sa, 8, rfl, by decide, by decide, hst5a, fun r x y z r0 r1 => ⟨_, _, rfl, rfl, _, rfl, ?_⟩⟩
      refine ite2 (fun c => ?_) (fun c => ?_)
      · exact ⟨_, rfl, sa, 4, rfl, by decide, by decide, stk_upd, fun r' x y z r0 r1 => hR _ _ ⟨_, rfl, r0, (But.refl sa H5).upd.upd⟩⟩
      · exact ⟨_, rfl, _, rfl, _, _, rfl, rfl, (by unfold CPow; decide), sa, _, rfl, (by decide), (by decide), stk_upd, fun r' x y z r0 r1 => ⟨_, _, rfl, rfl, hR _ _ ⟨_, rfl, by omega, (But.refl sa H5).upd.upd⟩⟩⟩
    obtain ⟨r, rfl, hr0, b6⟩ := hv
    have x6 := ext_bx x5 hsa (Bx.of_but b6)
    have T6 := tabs_but T5 hst5a b6
    have g1 := b6 _ _ g1 l1sa
    have g2 := b6 _ _ hg5 l2sa
    have hn1 : (n1.length : Int) = d := by omega
    have hn2 : (n2.length : Int) = d := by omega
    clear b6 b5 b3 b2 hst5a hst4 hst3 hst2 hst1 s4 s1 T5 T3 T2 x5 x3 x2
    -- for needs in [one, other, one]
    refine ⟨_, rfl, _, rfl, _, rfl, (by show 3 ≤ sizeLine; decide), fun p hp => ?_⟩
    obtain ⟨s7, hp7⟩ := new2 (.lst [V.ref l1, V.ref l2, V.ref l1]) hp
    refine ⟨p, rfl, ⟨_, SqL.of hp7⟩, for_list (K := K) (xs := [V.ref l1, V.ref l2, V.ref l1]) (fun i σ H' => ∃ v6, σ = [some (.ref a), some (.ref sa), some (.int d), some (.ref l1), some (.ref l2), some (.int r), v6, none, none, none] ∧ LamX.ExtN (upd H6 p (.lst [V.ref l1, V.ref l2, V.ref l1])) H' ∧ LamX.Tabs (Tl K) H') ⟨_, rfl, LamX.ExtN.refl _, T6.ext s7⟩ (fun i σ H' _ ⟨_, _, e, _⟩ => SqL.of (ext_lst e hp7)) ?_ ?_⟩
    · rintro i x σ H' hx ⟨v6, rfl, e, T'⟩
      obtain ⟨l, n, rfl, hln, hnl⟩ : ∃ (l : Addr) (n : List Int), x = .ref l ∧ H' l = some (.lst (n.map V.int)) ∧ n.length ≤ 24 := by
        have q1 := ext_lst e (s7 _ _ g1)
        have q2 := ext_lst e (s7 _ _ g2)
        rcases i with _ | _ | _ | i
        · cases hx; exact ⟨l1, n1, rfl, q1, by omega⟩
        · cases hx; exact ⟨l2, n2, rfl, q2, by omega⟩
        · cases hx; exact ⟨l1, n1, rfl, q1, by omega⟩
        · cases hx
      exact ⟨_, rfl, _, rfl, l, n, r, rfl, hln, hnl, hr0, T', fun H2 e2 T2 => ⟨_, rfl, iteF ⟨_, rfl, e.trans e2, T2⟩⟩⟩
    rintro σ H7 ⟨v6, rfl, e7, T7⟩
    have x7 : LamX.ExtN H H7 := (x6.trans (ext_of s7)).trans e7
    have g1 := ext_lst e7 (s7 _ _ g1)
    have g2 := ext_lst e7 (s7 _ _ g2)
    -- served
    refine ⟨_, rfl, a, ns, 2, rfl, ext_seq x7 hS, hl, by decide, by decide, fun sc H8 hsc s8 hst8 => ?_⟩
    have c1 : sc ≠ l1 := fun z => by rw [z, g1] at hsc; cases hsc
    have c2 : sc ≠ l2 := fun z => by rw [z, g2] at hsc; cases hsc
    refine ⟨_, rfl, sc, l1, n1, rfl, hst8, c1.symm, s8 _ _ g1, by omega, by omega, (fun n hn => by rw [hn1]; exact hbd1 n hn), T7.ext s8, fun H9 b9 T9 => ⟨_, rfl, iteF ?_⟩⟩
    have x9 := ext_new x7 hsc s8 b9
    have g1 := b9.lst c1.symm (s8 _ _ g1)
    have g2 := b9.lst c2.symm (s8 _ _ g2)
    -- both
    refine nxE (st_let (fun v H10 => ∃ (lb : Addr) (bs : List Int), v = .ref lb ∧ Same H9 H10 ∧ H10 lb = some (.lst (bs.map V.int)) ∧ bs.length = n1.length ∧ ∀ (i : Nat) (a b : Int), n1[i]? = some a → n2[i]? = some b → bs[i]? = some (max a b)) (fun R hR => ?_) (fun v H10 hv => ?_))
    · refine ⟨_, rfl, _, rfl, by omega, by omega, fun D hD => lc_upto (lo := 0) (L := n1.length) (by omega) hD (by omega) (fun j acc _ => ∃ bs : List Int, acc = bs.map V.int ∧ bs.length = j ∧ ∀ (i : Nat) (a b : Int), i < j → n1[i]? = some a → n2[i]? = some b → bs[i]? = some (max a b)) (fun _ _ => ⟨[], rfl, rfl, fun i a b h => by omega⟩) ?_ ?_⟩
      · rintro j acc H' N N0 hj s' hacc ⟨bs, rfl, hbl, hb⟩ hN hN0
        obtain ⟨u1, hu1⟩ := ints_ix (ns := n1) (i := j) hj
        obtain ⟨u2, hu2⟩ := ints_ix (ns := n2) (i := j) (by omega)
        refine ⟨rfl, ?_⟩
        refine ⟨_, rfl, _, rfl, .inl ⟨l1, _, _, _, rfl, rfl, SqL.of (s' _ _ g1), at_of (by omega) (ints_at hu1), _, rfl, _, rfl, .inl ⟨l2, _, _, _, rfl, rfl, SqL.of (s' _ _ g2), at_of (by omega) (ints_at hu2), _, _, rfl, ?_⟩⟩⟩
        rw [max2]
        refine hN _ _ (Same.refl _) fun _ _ _ => ⟨bs ++ [max u1 u2], by rw [List.map_append]; rfl, by rw [List.length_append, hbl]; rfl, fun i x y hi hx hy => ?_⟩
        by_cases e : i = j
        · subst e
          rw [hu1] at hx
          rw [hu2] at hy
          cases hx; cases hy
          rw [List.getElem?_append_right (by omega), hbl, Nat.sub_self]
          rfl
        · rw [List.getElem?_append_left (by omega)]
          exact hb i x y (by omega) hx hy
      · rintro acc H' s' hacc _ ⟨bs, rfl, hbl, hb⟩
        exact hR _ _ ⟨D, bs, rfl, s', hacc, hbl, fun i x y hx hy => hb i x y (List.getElem?_eq_some_iff.mp hx).1 hx hy⟩
    obtain ⟨lb, bs, rfl, s10, gb, hbl, hbs⟩ := hv
    have g1 := s10 _ _ g1
    have g2 := s10 _ _ g2
    have T10 := T9.ext s10
    have x10 := x9.trans (ext_of s10)
    -- given
    refine ⟨_, rfl, l1, _, rfl, .inl (SqL.of g1), fun p1 hp1 => ?_⟩
    obtain ⟨s11, gp1⟩ := new2 (.lst (n1.map V.int)) hp1
    refine ⟨_, rfl, l2, _, rfl, .inl (SqL.of (s11 _ _ g2)), fun p2 hp2 => ⟨(by show 2 ≤ sizeLine; decide), fun gv hgv => ?_⟩⟩
    obtain ⟨s12, gp2⟩ := new2 (.lst (n2.map V.int)) hp2
    obtain ⟨s13, gg⟩ := new2 (.lst [V.ref p1, V.ref p2]) hgv
    have s1113 := (s11.trans s12).trans s13
    have gp1 := s13 _ _ (s12 _ _ gp1)
    have gp2 := s13 _ _ gp2
    have g1 := s1113 _ _ g1
    have g2 := s1113 _ _ g2
    have gb := s1113 _ _ gb
    have T13 := T10.ext s1113
    have x13 := x10.trans (ext_of s1113)
    generalize upd (upd (upd H10 p1 (.lst (n1.map V.int))) p2 (.lst (n2.map V.int))) gv (.lst [V.ref p1, V.ref p2]) = H13 at gp1 gp2 g1 g2 gb T13 x13 gg ⊢
    have sm1 : ∀ n ∈ n1, Sm n := fun n hn => by have := hbd1 n hn; unfold Sm; omega
    have sm2 : ∀ n ∈ n2, Sm n := fun n hn => by have := hbd2 n hn; unfold Sm; omega
    have rows2 : ∀ H', LamX.ExtN H13 H' → RowsR K H' [V.ref p1, V.ref p2] [n1, n2] := fun H' e => .cons ⟨p1, rfl, .inl (SqL.of (ext_lst e gp1))⟩ (.cons ⟨p2, rfl, .inl (SqL.of (ext_lst e gp2))⟩ .nil)
    refine ⟨T13, fun H14 c' e14 T14 hc => ⟨_, rfl, .ref lb, rfl, hc, .nums bs, (by show bs.length ≤ 1000; omega), ⟨lb, rfl, ext_lst e14 gb⟩, fun H15 Q' s15 q => ?_, fun H15 s15 => ⟨_, rfl, iteF ?_⟩⟩⟩
    · have e15 := e14.trans (ext_of s15)
      refine ⟨_, rfl, gv, _, [n1, n2], rfl, SqL.of (ext_lst e15 gg), rows2 H15 e15, (by show 2 ≤ 1000; decide), (by show 0 < 2; decide), (fun ⟨r', hr, h⟩ => ?_), (fun _ ⟨r', hr, h⟩ => ?_), fun _ _ v' H' ms hml hmx s' hv' => q _ _ s' ?_⟩
      · have hr : r' = n1 ∨ r' = n2 := by simpa using hr
        rcases hr with rfl | rfl <;> omega
      · have hr : r' = n1 ∨ r' = n2 := by simpa using hr
        have e : ([n1, n2] : List (List Int)).headD [] = n1 := rfl
        rw [e] at h
        rcases hr with rfl | rfl <;> omega
      · have e : ([n1, n2] : List (List Int)).headD [] = n1 := rfl
        rw [e] at hml
        have := allmax_two hml (by omega) hbl hbs hmx
        subst this
        exact hv'
    have e15 := e14.trans (ext_of s15)
    have T15 := T14.ext s15
    have g1 := ext_lst e15 g1
    have g2 := ext_lst e15 g2
    have x15 := x13.trans e15
    -- given != [one, other]
    refine ⟨_, rfl, _, rfl, _, rfl, (by show 2 ≤ sizeLine; decide), fun q1 hq1 => ?_⟩
    obtain ⟨s16, gq⟩ := new2 (.lst [V.ref l1, V.ref l2]) hq1
    refine ⟨.list [.list (n1.map PyData.int), .list (n2.map PyData.int)], .list [.list (n1.map PyData.int), .list (n2.map PyData.int)], .lst (SqL.of (s16 _ _ (ext_lst e15 gg))) (.cons (dp_ints (SqL.of (s16 _ _ (ext_lst e15 gp1)))) (.cons (dp_ints (SqL.of (s16 _ _ (ext_lst e15 gp2)))) .nil)), .lst (SqL.of gq) (.cons (dp_ints (SqL.of (s16 _ _ g1))) (.cons (dp_ints (SqL.of (s16 _ _ g2))) .nil)), shaped_two sm1 sm2, shaped_two sm1 sm2, _, rfl, ?_⟩
    rw [eqv_self (shaped_two sm1 sm2)]
    refine iteF ?_
    have g1 := s16 _ _ g1
    have g2 := s16 _ _ g2
    have T16 := T15.ext s16
    have x16 := x15.trans (ext_of s16)
    generalize upd H15 q1 (.lst [V.ref l1, V.ref l2]) = H16 at g1 g2 T16 x16 ⊢
    -- common_needs([tuple(one)])
    refine ⟨_, rfl, l1, _, rfl, .inl ⟨SqL.of g1, fun t ht => ⟨(by show 1 ≤ sizeLine; decide), fun b hb => ?_⟩⟩⟩
    obtain ⟨s17, gt⟩ := new2 (.tup (n1.map V.int)) ht
    obtain ⟨s18, gb'⟩ := new2 (.lst [V.ref t]) hb
    refine ⟨b, _, [n1], rfl, SqL.of gb', .cons ⟨t, rfl, .inr (SqT.of (s18 _ _ gt))⟩ .nil, (by show 1 ≤ 1000; decide), (by show 0 < 1; decide), (fun ⟨r', hr, h⟩ => ?_), (fun _ ⟨r', hr, h⟩ => ?_), fun _ _ v' H19 ms hml hmx s19 hv' => ?_⟩
    · rw [List.mem_singleton.mp hr] at h; omega
    · rw [List.mem_singleton.mp hr] at h; exact absurd rfl h
    have := allmax_one hml hmx
    subst this
    obtain ⟨lv, rfl, _, gv'⟩ := hv'
    have s1719 := (s17.trans s18).trans s19
    refine ⟨_, rfl, .ref lv, .ref l1, rfl, mt_ints (by omega) gv' (s1719 _ _ g1), fun H20 s20 => ⟨_, rfl, iteF ?_⟩⟩
    have sAll := s1719.trans s20
    refine ⟨_, rfl, a, ns, 3, rfl, ext_seq (x16.trans (ext_of sAll)) hS, hl, by decide, by decide, fun sd H21 hsd s21 hst21 => ?_⟩
    have g2 := sAll _ _ g2
    have c3 : sd ≠ l2 := fun z => by rw [z, g2] at hsd; cases hsd
    exact ⟨_, rfl, sd, l2, n2, rfl, hst21, c3.symm, s21 _ _ g2, by omega, by omega, (T16.ext sAll).ext s21, fun H' _ _ => k H'⟩
end
end K16
end
section
set_option maxRecDepth 100000
set_option maxHeartbeats 0
namespace K16
open PySem PySem.Spec PyProof.Rows L2
theorem law_at {w : World} {h : Heap} {mg : Str → Option Value} {fa : Addr} (Y : hk.says w h) (G : h.Ns mainGlobals mg) (hmg : mg ("law" : Str) = some (.ref fa)) :
    ∃ K : PySem.W.Frag, K.In h ∧ LamX.LawAtG PySem.Challenge.rw_seenenough_k16_fewest_visits_and_served w K 9 63 "script" mg fa h := by
  obtain ⟨K, KX, c⟩ := Y
  have T : Txt w K mg := ⟨h, KX, G, c⟩
  obtain ⟨f, fd, F, g, hc⟩ := fl_law T
  have e := hmg.symm.trans g
  cases e
  have B := F.bindsA (ps := ["script"]) (fun _ _ _ _ _ _ us hl => match us, hl with | [_], _ => rfl)
  refine ⟨K, KX, fd, tf.map (He.cT K), spLaw K, fun p hp => ?_, fun p hp => ?_, fun p hp => ?_, fun s u => B s [u] rfl, fun H a ns hl hH hS => ⟨a, ns, rfl, hS, hl, fun p hp => ?_, fun _ => rfl⟩, fun base _ _ TB => fn_law T (fun p hp => TB _ (List.mem_map.mpr ⟨p, hp, rfl⟩)) F hc⟩
  · obtain ⟨d, hd, rfl⟩ := List.mem_map.mp hp
    exact c.empty d hd
  · obtain ⟨d, hd, rfl⟩ := List.mem_map.mp hp
    exact c.out d hd
  · obtain ⟨d, hd, rfl⟩ := List.mem_map.mp hp
    exact PySem.W.codeHd_of_K KX (c.hd d hd)
  · obtain ⟨d, hd, rfl⟩ := List.mem_map.mp hp
    exact LamX.TabS.nil (hH _ (List.mem_map.mpr ⟨d, hd, rfl⟩))
end K16
open PySem PySem.W PySem.Calls PyProof.Rows
theorem PySem.Challenge.cw_seenenough_k16_fewest_visits_and_served_holds : PySem.Challenge.rw_seenenough_k16_fewest_visits_and_served.Holds := by
  w_on; o_law
  refine HandSHeadRun.head_any (r := OpenLaw.row PySem.Challenge.rw_seenenough_k16_fewest_visits_and_served) (q := view (OpenLaw.row PySem.Challenge.rw_seenenough_k16_fewest_visits_and_served).prog [47]) (H := K16.hk) (ob := K16.ob) (M := 20000) (loose := K16.loose1 ++ K16.loose2) (d := HandSHeadRun.topDef (OpenLaw.row PySem.Challenge.rw_seenenough_k16_fewest_visits_and_served).prog 47) (kwd := []) K16.ob_eq
    (by kernel_rfl) (fun s => by kernel_rfl) K16.run (by kernel_rfl) (by kernel_rfl) (by kernel_rfl) (by rfl) (by first | assumption | decide +kernel) (by decide +kernel) ⟨rfl, rfl, rfl, rfl, rfl, by decide +kernel⟩ ?hw ?hc
  case hw => w_witness2
  case hc =>
    refine LamX.walk_ofG (l := PySem.Challenge.rw_seenenough_k16_fewest_visits_and_served) (n := 63) (k := 9) (x := "script") rfl (by decide) (by kernel_rfl) ⟨by decide, by decide, by decide⟩ rfl ?F
    intro w mg fa h Y G hmg0
    have hmg : mg ("law" : PySem.Str) = some (.ref fa) := by
      have e : (HandSHeadRun.topDef (OpenLaw.row PySem.Challenge.rw_seenenough_k16_fewest_visits_and_served).prog 47).name = ("law" : PySem.Str) := by kernel_rfl
      rw [← e]
      exact hmg0
    exact K16.law_at Y G hmg
end
