import PyProof.Rows.All
import Wide.All
import OpenK.AllK
import Wide.FinOn
import KE.GoesEnumKw
import KE.KStateDown
import HandS.ForMost
import HandS.Exc
import HandS.ExcInit
import HandS.ExcIs
import HandS.ExcField
import HandS.TryOnly
import HandS.TryMany
import HandS.Lambda
import HandS.HotCalls
import HandS.IsInst
import HandS.SortKw
import HandS.WordsExc
import HandS.Wide
import HandS.Defaults
import HandS.HeadHook4
import HandS.HeadWalk
import HandS.RaiseMore
import HandS.ClsMeth
import KE.KExcIs
import HandS.Head0
import HandS.Head1
import HandS.Head2
import HandS.Steps
import HandS.Conv
import HandS.TupSets
import HandS.WordsDict
import HandS.Small
import HandS.EndTab
import PySem.Challenge.RW_seenenough_k04_windows_counted_and_serve
set_option Elab.async false
set_option linter.all false
section
set_option maxRecDepth 100000
set_option maxHeartbeats 4000000
namespace L2
open PySem PySem.Spec PyProof.Rows
/-! ### x[i] op= e over a list -/
theorem get_list {X : Cx} : PGet X (rIxL X.K) := by
  intro pins s σ H o i ov iv Q I rx ry h
  obtain ⟨p, xs, k, z, rfl, rfl, hq, he, q⟩ := h
  cases rx
  obtain ⟨t, rfl⟩ := ry
  obtain ⟨its, r, pl, hz⟩ := I.list hq
  obtain ⟨j, h1, h2, h3, h4, h5⟩ := atI_get he
  obtain ⟨w, ew, rw'⟩ := r.get h2
  have hl := r.length
  have hn := line63
  have fin : EP X pins σ Q w s := ⟨z, H, I, rw', q⟩
  by_cases h0 : 0 ≤ k
  · have hj : k.toNat = j := by
      rw [seqIndex_of h0 h5] at h1
      exact Option.some.inj h1
    exact wpAny_getItem_list pl.isList h0 (by omega) (by rw [hj]; simpa using ew) fin
  · have hj : (k + (its.toArray.size : Int)).toNat = j := by
      rw [seqIndex_neg (by omega) h4] at h1
      rw [List.size_toArray, ← hl]
      exact Option.some.inj h1
    exact wpAny_getItem_list_neg pl.isList (by omega) (by rw [List.size_toArray] <;> omega) (by omega) (by rw [hj]; simpa using ew) fin
/-! ### a, b = a list or a tuple -/
def gSeq (K : PySem.W.Frag) (n : Nat) (t : TGs) : TG := fun v σ H Q => gTup K n t v σ H Q ∨ gLst K n t v σ H Q
theorem pg_seq {X : Cx} {pos : Pos} {es : List Expr} {k : Nat} {t : TGs} {n : Nat} (hc : X.calm = true) (h : PGs X es t)
    (hn : (assignEach es X.env).length = n := by rfl) (hst : (assignEach es X.env).findIdx? (·.1) = none := by rfl) : PG X (.Tuple es k pos) (gSeq X.K n t) := by
  refine ⟨fun pins s σ H v u Q I r hw => ?_⟩
  rcases hw with hw | hw
  · exact (pg_tup hc h hn hst).run pins s σ H v u Q I r hw
  · exact (pg_lst hc h hn hst).run pins s σ H v u Q I r hw
/-! ### enumerate(list, start=k) -/
def IteS (K : PySem.W.Frag) (a : Addr) (k : Int) : It :=
  ⟨fun i H => ∃ (xs : List V) (x : V), SqL K H a xs ∧ xs[i]? = some x, fun i H v H' => ∃ T x, v = .ref T ∧ H T = none ∧ H' = upd H T (.tup [.int (k + (i : Nat)), x]) ∧ ∀ xs, SqL K H a xs → xs[i]? = some x, fun i H => ∃ xs : List V, SqL K H a xs ∧ xs.length ≤ i⟩
theorem turn_enumS {P : Program} {w : World} {K : PySem.W.Frag} {elts : List Expr} {kk : Nat} {tpos : Pos} (a e it : Addr) (k : Int) :
    Turn P w K (.Tuple elts kk tpos) (IteS K a k) [e, it] e (fun i h => (∃ old, IsEnum h e it (k + ((i : Nat) : Int)) old) ∧ h.IsListIter it a i ∧ e ≠ it) where
  mem := by simp
  obj := fun i h st b hb => by
    obtain ⟨⟨old, he⟩, ⟨o, ho, hc, hd⟩, _⟩ := st
    have e' : b = e ∨ b = it := by simpa using hb
    rcases e' with z | z
    · rw [z]; exact ⟨_, he, fun v q => nomatch q⟩
    · rw [z]; exact ⟨o, ho, fun v q => by rw [hd] at q; cases q⟩
  keep := fun i h h' st k => let ⟨⟨old, he⟩, hi, hne⟩ := st; ⟨⟨old, k e (by simp) _ he⟩, hi.at fun o q => k it (by simp) o q, hne⟩
  item := by
    intro X hP hw hK hc i pins s σ H E I hf st hg
    subst hP hw hK
    obtain ⟨⟨old, he⟩, hit, hne⟩ := st
    obtain ⟨xs, x, hq, hx⟩ := hg
    obtain ⟨its, rv, p, hz⟩ := I.list hq
    obtain ⟨u, hu, ru⟩ := rv.get hx
    have hel : e < s.heap.objs.size := Heap.lt_size he
    have hil : it < s.heap.objs.size := by obtain ⟨_, q, _⟩ := hit; exact Heap.lt_size q
    have hal : a ≠ it := fun z => by
      obtain ⟨o1, e1, c1, _⟩ := id hit
      obtain ⟨o2, e2, c2, _⟩ := id p.isList
      rw [z, e1] at e2
      have eo := Option.some.inj e2
      rw [eo, c2] at c1
      exact absurd (Value.type.inj c1) (by decide)
    have hea : e ∉ [it, a] := fun z => by
      rcases List.mem_cons.mp z with z | z
      · exact hne z
      · have z' := List.mem_singleton.mp z
        obtain ⟨o2, e2, c2, _⟩ := id p.isList
        have he' : s.heap.get? e = some _ := he
        rw [z', e2] at he'
        rw [Option.some.inj he'] at c2
        exact absurd (Value.type.inj c2) (by decide)
    refine wpAny_pyNext_enum_itemC (Draws.list (A := X.A.in1) (I.ok.hd hc) it a hal its.toArray) he ⟨hit, p.isList⟩ (by have := (List.getElem?_eq_some_iff.mp hu).1; simpa using this) hne hea fun u' h' tk hP ho hst' hT hsz hk => ?_
    obtain rfl : u' = u := by
      have hP' : its.toArray[i]? = some u' := hP
      rw [List.getElem?_toArray, hu] at hP'
      exact (Option.some.inj hP').symm
    obtain ⟨hit', _⟩ := hst'
    refine ⟨_, rfl, wpAny_letOwnedTupleGo_enum (s := { s with heap := h', toks := tk + 1 }) ho fun h'' he' sb => ?_⟩
    have hT2 : h''.get? s.heap.objs.size = some { cls := .type "tuple", data := .seq #[.int (k + i) tk, u'] } := (sb.2 _ (Nat.ne_of_gt hel)).trans hT
    have new : ObjOk X.prog X.w (upd H s.heap.objs.size (.tup [.int (k + (i : Nat)), x])) h'' s.heap.objs.size (.tup [.int (k + (i : Nat)), x]) :=
      ⟨by show 2 ≤ sizeLine; decide, [.int (k + i) tk, u'], .cons ⟨_, rfl⟩ (.cons ru .nil), ⟨_, hT2, rfl, _, rfl⟩⟩
    have I1 : Inv X pins σ (upd H s.heap.objs.size (.tup [.int (k + (i : Nat)), x])) { s with heap := h'', toks := tk + 1 } :=
      I.turnedNew (ch := [e, it]) (fun b ob hb q => (sb.2 b (fun z => hb (by simp [z]))).trans (hk b ob (fun z => hb (by simp [z])) (fun z => hb (by simp [z])) q)) hf (Nat.le_refl _) new
    refine ⟨.ref s.heap.objs.size, _, I1, rfl, ⟨_, x, rfl, I.hok.fresh (Nat.le_refl _), rfl, fun ys hy => by rw [I.list_inj hy hq]; exact hx⟩, ⟨⟨u', ?_⟩, hit'.at fun o q => (sb.2 it (Ne.symm hne)).trans q, hne⟩, fun b hb => ?_⟩
    · have e1 : k + ((i + 1 : Nat) : Int) = (k + (i : Int)) + 1 := by omega
      rw [e1]; exact he'
    · have hb' : b < s.heap.objs.size := by
        have e' : b = e ∨ b = it := by simpa using hb
        rcases e' with z | z
        · rw [z]; exact hel
        · rw [z]; exact hil
      rw [upd_ne (Nat.ne_of_lt hb')]
      exact (hf b hb).1
  done := by
    intro X hP hw hK hc i pins s σ H E I hf st hg
    subst hP hw hK
    obtain ⟨⟨old, he⟩, hit, hne⟩ := st
    obtain ⟨xs, hq, hx⟩ := hg
    obtain ⟨its, rv, p, hz⟩ := I.list hq
    obtain ⟨f0, f1, f2, f3, f4, f5⟩ := hf it (by simp)
    have hl := rv.length
    have hT : s.TypeIs (.ref e) "enumerate" := ⟨_, he, rfl⟩
    unfold pyNext
    refine wpAny_bind (wpAny_attempt (wpAny_callSpecial?_slot (name := Str.ofString "__next__") hT F.slot_enumerate_next
      (wpAny_call_entry F.slot_enumerate_next hT F.entry_enumerate_next ?_ (F.args_enumerate_next_1 _))))
    show wpAny _ _ (field (.ref e) 2 >>= _) _ _ _
    refine wpAny_bind (wpAny_field he rfl (x := .ref it) rfl ?_)
    refine wpAny_bind (wpAny_nextOf_list_end (show X.A.in1.handled = none from I.ok.hd hc) hit p.isList (by simp; omega) fun h' x eb hx' => ?_)
    obtain ⟨o, ho, hc'⟩ := hx'
    refine wpAny_bind (wpAny_isInstance (T := "StopIteration") (b := true) ⟨o, ho, hc'⟩ isSubtype_stop ?_)
    exact wpAny_pure ⟨rfl, I.turned (t' := s.toks) (fun b o hb q => eb b o hb q) f0 f1 f3 f4 f5⟩
  self := fun A i s Q E st h => let ⟨⟨_, he⟩, _⟩ := st; wpAny_pyIter_enum he h
def iEnumS (K : PySem.W.Frag) (ta tk : TA) : TI := fun σ H R => ta σ H fun vs H1 => tk σ H1 fun zs H2 => ∃ a xs k, vs = [.ref a] ∧ zs = [.int k] ∧ -(2 ^ 63) ≤ k ∧ k < 2 ^ 63 ∧ SqL K H2 a xs ∧ R (IteS K a k) H2
theorem callWith_typeK {M : Model} {A : Around} {E : Value → Shared → Prop} {s : Shared} {env : Env} {pos : Pos} {T : String} {e : Expr} {rest : List Expr} {kws : List Keyword} {Q : Value → Shared → Prop}
    (h : wpAny M A (spliced (backTo pos (starEach (e :: rest) env))) (fun vs s₁ => wpAny M A (evalAll ((backToKw pos (keywordEach kws env)).map (·.2)))
      (fun kvs s₂ => wpAny M A (call (.type T) vs (((backToKw pos (keywordEach kws env)).filterMap (·.1)).zip kvs)) Q E s₂) E s₁) E s)
    (he : backTo pos (starEach (e :: rest) env) = (false, eval e env) :: backTo pos (starEach rest env) := by rfl)
    (hplain : (backTo pos (starEach (e :: rest) env)).any (·.1) = false := by rfl)
    (hall : (backToKw pos (keywordEach kws env)).all (·.1.isSome) = true := by rfl)
    (hkw : (backToKw pos (keywordEach kws env)).any (·.1.isNone) = false := by rfl) :
    wpAny M A (callWith pos (.type T) [] (backTo pos (starEach (e :: rest) env)) (backToKw pos (keywordEach kws env))) Q E s := by
  have h2 : wpAny M A (evalArgs (.type T) true (backTo pos (starEach (e :: rest) env)) (backToKw pos (keywordEach kws env))) (fun a s₁ => wpAny M A (call (.type T) ([] ++ a.pos) a.kw) Q E s₁) E s := by
    rw [he] at h ⊢
    exact PyProof.Rows.evalArgs_kwB hall h
  unfold callWith
  refine wpAny_bind (wpAny_holding (wpAny_mono h2 (fun a s₁ h₁ => wpAny_bind (wpAny_standAt ?_)) fun _ _ x => x))
  simp only [hplain, hkw, Bool.or_false]
  refine wpAny_bind (wpAny_pure ?_)
  exact wpAny_bind (wpAny_mono h₁ (fun r s₂ hr => wpAny_bind (wpAny_holding (wpAny_point (wpAny_pure hr)))) fun _ _ x => x)
theorem pi_enumS {X : Cx} {e e2 : Expr} {ta tk : TA} {p pos tpos kpos : Pos} {elts : List Expr} {kk : Nat} (hg : Gl X "enumerate") (hm : X.mg "enumerate" = none) (ha : PA X [e] ta) (hk : PK X [⟨some (Str.ofString "start"), e2, kpos⟩] tk) (hs : starEach [e] X.env = [(false, eval e X.env)] := by rfl) :
    PI X (.Tuple elts kk tpos) (.Call (.Name "enumerate" p) [e] [⟨some (Str.ofString "start"), e2, kpos⟩] pos) (iEnumS X.K ta tk) := by
  refine ⟨fun pins s σ H R I h => ?_⟩
  refine wpAny_Call_Name_kw (ld_blt I hg hm boot_enumerate ?_)
  refine callWith_typeK (thn (ha.run pos pins s σ H _ I h) fun us s1 ⟨vs, H1, I1, r1, q1⟩ => thn (hk.run pos pins s1 σ H1 _ I1 q1) fun ws s2 ⟨zs, H2, I2, r2, q2⟩ => ?_) (by rw [hs]; rfl) (by rw [hs]; rfl)
  obtain ⟨a, xs, k, rfl, rfl, hk0, hk1, hq, q⟩ := q2
  obtain rfl := Vals.ref1 r1
  obtain ⟨w1, rfl, t, rfl⟩ := vals1 r2
  obtain ⟨its, rv, p', hz⟩ := I2.list hq
  show wpAny _ _ (call (.type "enumerate") [.ref a] [(Str.ofString "start", .int k t)]) _ _ _
  refine enum_begins_start (begins_list a its.toArray) p'.isList hk0 hk1 fun h' he hit hsz hkp => wpAny_pyIter_enum he ?_
  have I3 : Inv X pins σ H2 { s2 with heap := h' } := I2.kept (t' := s2.toks) hkp
  have he2 : IsEnum h' (s2.heap.objs.size + 1) s2.heap.objs.size (k + ((0 : Nat) : Int)) .none := by
    have : k + ((0 : Nat) : Int) = k := by omega
    rw [this]; exact he
  refine ⟨s2.heap.objs.size + 1, [s2.heap.objs.size + 1, s2.heap.objs.size], _, _, H2, rfl, I3, turn_enumS a (s2.heap.objs.size + 1) s2.heap.objs.size k, ⟨⟨.none, he2⟩, ⟨_, hit, rfl, rfl⟩, Nat.succ_ne_self _⟩, fun b hb => ?_, q⟩
  have e' : b = s2.heap.objs.size + 1 ∨ b = s2.heap.objs.size := by simpa using hb
  have hle : s2.heap.objs.size ≤ b := by
    rcases e' with z | z
    · rw [z]; exact Nat.le_add_right _ _
    · rw [z]; exact Nat.le_refl _
  exact I2.fpOk hle (I2.hok.fresh hle)
end L2
end
section
set_option maxRecDepth 100000
set_option maxHeartbeats 4000000
namespace L2
open PySem PySem.Spec PyProof.Rows
/-! ### Base.__init__(self, ..), Base an own class that has no __init__ of its own and descends from ValueError -/
structure SeTxt (K : PySem.W.Frag) (CS : Addr) : Prop where
  rd : PySem.W.readsIn K CS (.type "type") = true
  ga : PySem.W.specialIn K (.ref CS) "__getattribute__" = some (some (.builtin "type.__getattribute__"))
  at_ : PySem.W.findCls K (.ref CS) (.type "type") "__init__" = some (.val (.builtin "ValueError.__init__"))
def seB (K : PySem.W.Frag) (CS : Addr) : Bool := PySem.W.readsIn K CS (.type "type") && (decide (PySem.W.specialIn K (.ref CS) "__getattribute__" = some (some (.builtin "type.__getattribute__"))) && (match PySem.W.findCls K (.ref CS) (.type "type") "__init__" with
  | some (.val v) => decide (v = .builtin "ValueError.__init__")
  | _ => false))
theorem seB_ok {K : PySem.W.Frag} {CS : Addr} (h : seB K CS = true) : SeTxt K CS := by
  obtain ⟨h1, h2⟩ := Bool.and_eq_true_iff.mp h
  obtain ⟨h3, h4⟩ := Bool.and_eq_true_iff.mp h2
  refine ⟨h1, of_decide_eq_true h3, ?_⟩
  split at h4
  · rename_i v e
    rw [e, of_decide_eq_true h4]
  · cases h4
section
variable {X : Cx} {e : Expr} {es : List Expr} {ta : TA} {x : Str} {p1 p2 pos : Pos} {CS : Addr}
theorem pe_seinit {pl : Sem Bool} (T : SeTxt X.K CS) (hg : Gl X x) (hm : X.mg x = some (.ref CS)) (ha : PA X (e :: es) ta)
    (hdb : (x == ("__debug__" : Str)) = false := by decide)
    (hc : eval (.Call (.Attribute (.Name x p1) "__init__" p2) (e :: es) [] pos) X.env = (do
      let ov ← eval (.Name x p1) X.env
      standAt p2.atName
      let (f, first) ← holding [ov] (getMethod ov "__init__" pl)
      callWith pos f first (backTo pos (starEach (e :: es) X.env)) (backToKw pos (keywordEach [] X.env))) := by rfl)
    (he : starEach (e :: es) X.env = (false, eval e X.env) :: starEach es X.env := by rfl) (hpl : (backTo pos (starEach es X.env)).any (·.1) = false := by rfl) :
    PE X (.Call (.Attribute (.Name x p1) "__init__" p2) (e :: es) [] pos) (tVeI X.K ta) := by
  refine ⟨fun pins s σ H Q I h => ?_⟩
  refine PySem.W.methodCall_KW (ld_glob I hg hm ?_ hdb) hc
  obtain ⟨m, fr⟩ := I.fr
  refine PySem.W.method_of_cls fr I.ok.mod.kin T.ga ?_
  refine PySem.W.cls_value I.kIn T.rd T.at_ (by decide +kernel) ?_
  show wpAny _ _ (callWith pos (Value.builtin "ValueError.__init__") [] (backTo pos (starEach (e :: es) X.env)) []) _ _ _
  refine PyProof.Rows.callWith_method1 (thn (ha.run pos pins _ σ H _ (I.tok _) h) fun us s1 ⟨vs, H1, I1, r1, a, C, ws, ev, hl, T, ea, q⟩ => ?_) he hpl
  subst ev
  cases r1 with
  | @cons _ u0 _ ur ra rw' =>
    obtain rfl : u0 = Value.ref a := ra
    have hlen : ur.length ≤ sizeLine := by
      rw [← Paired.length rw', sizeLine_eq]
      omega
    exact oinit_ok T I1 ea hlen fun s' J => ⟨.non, H1, J, rfl, q⟩
end
end L2
end
section
set_option maxRecDepth 100000
set_option maxHeartbeats 4000000
namespace L2
open PySem PySem.Spec PyProof.Rows
/-! ### the exception that a context bears: its fields, its class -/
section
variable {X : Cx} {p : Addr × Obj} {cls : Value} {d : Option Addr} {C D : Addr} {n : Str} {e : Expr} {te : TE} {pos : Pos}
theorem pe_xfG (hp : p ∈ X.pn) (T : XfC X.K C) (hno : PySem.W.findIn X.K (.ref C) n = some none) (hz : Zc cls d p.2) (hf : ∃ vs, p.2.data = .fields vs) (he : PE X e te)
    (hb : attributeBase e n X.env (eval e X.env) = eval e X.env := by rfl) : PE X (.Attribute e n pos) (tXf p.1 cls d C n te) := by
  constructor
  intro pins s σ H Q I h
  refine attr_of hb (thn (he.run pins s σ H _ I h) ?_)
  rintro u s1 ⟨x, H1, I1, rx, rfl, rfl, dd, fs, v, rfl, ea, l, q⟩
  obtain rfl : u = Value.ref p.1 := rx
  have hget := (I1.pin p (List.mem_append_left _ hp)).1
  obtain ⟨vs, hdat⟩ := hf
  have hobj : ObjOk X.prog X.w H1 s1.heap dd (.xd fs) := I1.hok dd _ ea
  obtain ⟨mA, hns, hrel⟩ := hobj
  obtain ⟨od, hod, hlook⟩ := lookIn_ns hns
  obtain ⟨u2, hu2, ru2⟩ := RelO.some_of (v := v) (o := mA n) (by rw [← l]; exact hrel n)
  have at_ : PySem.W.InstAt s1.heap p.1 p.2 C (some od) := ⟨hget, hz.1, by unfold PySem.W.notCls; rw [hdat] <;> rfl, by rw [hz.2]; exact hod⟩
  exact HandSPX.exc_get I1.kIn at_ T.ga T.gg T.exC (PySem.W.findObj_own T.hdC hno rfl (by rw [hlook, hu2])) (handed_of ru2) ⟨v, H1, I1.tok _, ru2, q⟩
/-- isinstance(e, c), e the exception at p, of the class at D, its own dict at d -/
def rIsD (K : PySem.W.Frag) (D a d : Addr) : List V → Hp → VK → Prop := fun xs H Q => ∃ (c : V) (cv : Value) (b : Bool) (fs : List (Str × V)), xs = [.ref a, c] ∧ (∀ u, RelV c u → u = cv) ∧ H d = some (.xd fs) ∧ PySem.W.kitOne K (.ref D) cv = some b ∧ Q (.bl b) H
theorem call_isD {d : Addr} (hp : p ∈ X.pn) (T : ExcC X.K D) (hz : Zc (.ref D) (some d) p.2) (hf : ∃ vs, p.2.data = .fields vs) : CallR X (.builtin "isinstance") (rIsD X.K D p.1 d) := by
  intro pins s σ H xs us Q I r h
  obtain ⟨c, cv, b, fs, rfl, hcv, ed, hkit, q⟩ := h
  obtain ⟨u1, u2, rfl, r1, r2⟩ := vals2 r
  obtain rfl : u1 = Value.ref p.1 := r1
  obtain rfl : u2 = cv := hcv _ r2
  have hget := (I.pin p (List.mem_append_left _ hp)).1
  have hobj : ObjOk X.prog X.w H s.heap d (.xd fs) := I.hok d _ ed
  obtain ⟨mA, hns, hrel⟩ := hobj
  obtain ⟨od, hod, hlook⟩ := lookIn_ns hns
  obtain ⟨vs, hdat⟩ := hf
  have at_ : PySem.W.InstAt s.heap p.1 p.2 D (some od) := ⟨hget, hz.1, by unfold PySem.W.notCls; rw [hdat] <;> rfl, by rw [hz.2]; exact hod⟩
  have hcl : (PySem.W.clsIn X.K D).isSome = true := by
    obtain ⟨cd, hc, _⟩ := PySem.W.any_some T.hd
    rw [hc]; rfl
  exact PySem.W.kia_one (PySem.W.kitx_exc (gt := none) hcl T.hg T.hk T.hs T.ha T.hn T.ht T.hm) I.kIn at_ hkit (fun z => nomatch z) fun tk => ⟨.bl b, H, I.tok tk, rfl, q⟩
end
/-! ### a def that is handed the exception which an except suite holds -/
abbrev SpE := Addr → Value → Option Addr → Sp
structure FnE (P : Program) (w : World) (K : PySem.W.Frag) (mg : Str → Option Value) (base : Heap) (k : Nat) (f : Addr) (fd : FuncData) (ps : List Str) (sp : SpE) : Prop where
  len : ∀ a cls d vs H Q E, sp a cls d vs H Q E → vs.length = ps.length
  run : ∀ (A : Around) (outer : List Env) (s : Shared) (H : Hp) (args : Args) (us : List Value) (vs : List V) (Q : VK) (p : Addr × Obj) (cls : Value) (d : Option Addr), L2H.RoomH k A → Zc cls d p.2 → (∃ vs, p.2.data = .fields vs) → L2H.PinOk outer H s p →
    Env0 P w K mg base A outer s H → BindsTo s fd args (ps.zip us) → Vals vs us → sp p.1 cls d vs H Q E0 → codeAny (model P w) A (.call (.ref f) args) (CR CX0 outer P w H s Q E0) s
theorem fnE_of {P : Program} {w : World} {K : PySem.W.Frag} {mg : Str → Option Value} {base : Heap} {k : Nat} {f : Addr} {name qual : Str} {params : Arguments} {body : List Stmt} {scope : Scope} {dV kV doc pm cdv ct oc : Value} {an od : Option Addr}
    {osl : Array (Option Value)} {N ps : List Str} {sp : SpE} (lk : K.lookup f = some ⟨oc, od, .func (PySem.W.fnOf name qual params body scope dV kV doc pm an cdv ct), osl⟩) (hcd : PySem.W.codeIn K cdv qual = true) (S : FnScope N ps scope)
    (len : ∀ a cls d vs H Q E, sp a cls d vs H Q E → vs.length = ps.length)
    (hbody : ∀ (A : Around) (outer : List Env) (s : Shared) (H : Hp) (vs : List V) (Q : VK) (p : Addr × Obj) (cls : Value) (d : Option Addr), L2H.RoomH k (A.deeper (envOfC qual scope s.heap.objs.size f cdv)) → Zc cls d p.2 → (∃ vs, p.2.data = .fields vs) → sp p.1 cls d vs H Q E0 →
      ∃ t, PSs (L2H.cxH CX0 P w K mg base N qual scope f cdv A outer s H E0 p) body t ∧ t { nx := fun _ H' => Q .non H', rt := Q } (L2.start N vs) H) :
    FnE P w K mg base (k + 1) f (PySem.W.fnOf name qual params body scope dV kV doc pm an cdv ct) ps sp := by
  constructor
  · exact len
  intro A outer s H args us vs Q p cls d hr hz hf hpin e0 hb r hsp
  have hlen := len _ _ _ _ _ _ _ hsp
  have hK : K.In s.heap := e0.mod.kin.keeps fun b o e => (e0.bs b o e).1
  have hLim : s.heap.NoLimit := e0.mod.nolimit.keeps fun b o e => (e0.bs b o e).1
  have hpar : ∀ y ∈ ps.zip us, scope.names.lookup y.1 = some .local ∨ (scope.names.lookup y.1 = some .cell ∧ ((cellsFrom (s.heap.objs.size + 1) scope.names []).lookup y.1).isSome = true) := by
    rintro ⟨n, v⟩ hy
    exact (S.par n (List.of_mem_zip hy).1).imp id fun q => ⟨q, PySem.W.cellsFrom_some _ _ _ (.inl q)⟩
  refine codeAny_call_function hr.depth (hK _ _ lk) rfl S.co S.gen rfl (PySem.W.codeRec_of hK hcd) (hb _ _ _ _ ?_)
  refine wpAny_newFunctionEnv_cells S.kind hpar ?_
  rintro env rfl s1 x
  refine ⟨hLim.keeps x.toInCall.keep, codeAny_func ?_⟩
  obtain ⟨t, ht, hq⟩ := hbody A outer s H vs Q p cls d (hr.deeper _) hz hf hsp
  refine wpAny_mono (ht.run [] s1 (L2.start N vs) H _ (L2H.inv_startH S hpin e0 hlen r x) hq) ?_ fun e s' hs => hs
  intro fl s' hs
  cases fl with
  | ret u =>
    obtain ⟨v, σ', H', J, rv, q⟩ := hs
    exact ⟨v, H', J.os, J.bare, J.base, J.hok, rv, q⟩
  | next =>
    obtain ⟨σ', H', J, q⟩ := hs
    exact ⟨V.non, H', J.os, J.bare, J.base, J.hok, rfl, q⟩
  | brk => exact hs.elim fun _ z => z.elim fun _ z => z.2.elim
  | cont => exact hs.elim fun _ z => z.elim fun _ z => z.2.elim
def tCallE (sp : Sp) (t : TA) : TE := fun σ H Q => t σ H fun vs H1 => sp vs H1 Q E0
theorem pe_callE {X : Cx} {k : Nat} {f : Addr} {fd : FuncData} {ps : List Str} {sp : SpE} {x : Str} {q pos : Pos} {e : Expr} {es : List Expr} {t : TA} {p : Addr × Obj} {cls : Value} {d : Option Addr} (F : FnE X.prog X.w X.K X.mg X.base k f fd ps sp) (hr : L2H.RoomH k X.A)
    (hp : p ∈ X.pn) (hz : Zc cls d p.2) (hf : ∃ vs, p.2.data = .fields vs) (hg : Gl X x) (hm : X.mg x = some (.ref f)) (hk : PySem.W.keepIn X.K (.ref f) = true) (hb : Binds X.K fd ps [])
    (ha : PA X (e :: es) t) (hdb : (x == ("__debug__" : Str)) = false := by decide) (he : starEach (e :: es) X.env = (false, eval e X.env) :: starEach es X.env := by rfl) (hpl : (backTo pos (starEach es X.env)).any (·.1) = false := by rfl) :
    PE X (.Call (.Name x q) (e :: es) [] pos) (tCallE (sp p.1 cls d) t) := by
  constructor
  intro pins s σ H Q I h
  refine wpAny_Call_Name_kw (ld_glob I hg hm ?_ hdb)
  refine PySem.W.callWith_K (h₀ := X.base) I.ok.mod.kin hk (thn (ha.run pos pins s σ H _ I h) ?_) he hpl
  rintro us s1 ⟨vs, H1, I1, r, hsp⟩
  refine ⟨I1.kIn, ?_⟩
  have hlen : us.length = ps.length := by rw [← r.length]; exact F.len _ _ _ _ _ _ _ hsp
  have hbind := hb s1 us I1.kIn (by rw [List.append_nil]; exact hlen)
  rw [List.append_nil] at hbind
  obtain ⟨g1, g2, g3, g4, g5⟩ := I1.pin p (List.mem_append_left _ hp)
  have hpin : L2H.PinOk X.stack H1 s1 p := ⟨g1, g2, fun hm => (List.mem_cons.mp (I1.stkSub p.1 hm)).elim g3 g4, g5⟩
  refine wpAny_call (codeAny_mono (F.run X.A X.stack s1 H1 ⟨us, []⟩ us vs Q p cls d hr hz hf hpin I1.env0 hbind r hsp) ?_)
  intro r s' hq
  cases r with
  | error e => exact False.elim hq
  | ok fl =>
    cases fl with
    | ret u => exact I1.after hq
    | next => exact False.elim hq
    | brk => exact False.elim hq
    | cont => exact False.elim hq
/-! ### a def that asks that no repr is under way -/
structure FnG (P : Program) (w : World) (K : PySem.W.Frag) (mg : Str → Option Value) (base : Heap) (k : Nat) (f : Addr) (fd : FuncData) (ps : List Str) (sp : Sp) : Prop where
  len : ∀ vs H Q E, sp vs H Q E → vs.length = ps.length
  run : ∀ (A : Around) (outer : List Env) (s : Shared) (H : Hp) (args : Args) (us : List Value) (vs : List V) (Q : VK), Room k A → A.guards = some [] → Env0 P w K mg base A outer s H → BindsTo s fd args (ps.zip us) → Vals vs us → sp vs H Q E0 →
    codeAny (model P w) A (.call (.ref f) args) (CR CX0 outer P w H s Q E0) s
theorem fnG_of {P : Program} {w : World} {K : PySem.W.Frag} {mg : Str → Option Value} {base : Heap} {k : Nat} {f : Addr} {name qual : Str} {params : Arguments} {body : List Stmt} {scope : Scope} {dV kV doc pm cdv ct oc : Value} {an od : Option Addr}
    {osl : Array (Option Value)} {N ps : List Str} {sp : Sp} (lk : K.lookup f = some ⟨oc, od, .func (PySem.W.fnOf name qual params body scope dV kV doc pm an cdv ct), osl⟩) (hcd : PySem.W.codeIn K cdv qual = true) (S : FnScope N ps scope)
    (hbs : ∀ (s : Shared) (us : List Value), us.length = ps.length → BindsTo s (PySem.W.fnOf name qual params body scope dV kV doc pm an cdv ct) ⟨us, []⟩ (ps.zip us))
    (len : ∀ vs H Q E, sp vs H Q E → vs.length = ps.length)
    (hbody : ∀ (A : Around) (outer : List Env) (s : Shared) (H : Hp) (vs : List V) (Q : VK), Room k (A.deeper (envOfC qual scope s.heap.objs.size f cdv)) → (A.deeper (envOfC qual scope s.heap.objs.size f cdv)).guards = some [] → sp vs H Q E0 →
      ∃ t, PSs (cxOf CX0 P w K mg base N qual scope f cdv A outer s H E0).nox body t ∧ t { nx := fun _ H' => Q .non H', rt := Q } (L2.start N vs) H) :
    FnG P w K mg base (k + 1) f (PySem.W.fnOf name qual params body scope dV kV doc pm an cdv ct) ps sp := by
  constructor
  · exact len
  intro A outer s H args us vs Q hr hgd e0 hb r hsp
  refine LamX.run_ofS lk hcd S hr e0 hb r (len _ _ _ _ hsp) fun hr' => ?_
  obtain ⟨t, h, q⟩ := hbody A outer s H vs Q hr' (by first | exact hgd | (show A.guards = some []; exact hgd)) hsp
  exact ⟨t, h.nox, q⟩
theorem pe_callG {X : Cx} {k : Nat} {f : Addr} {fd : FuncData} {ps : List Str} {sp : Sp} {x : Str} {q pos : Pos} {e : Expr} {es : List Expr} {t : TA} (F : FnG X.prog X.w X.K X.mg X.base k f fd ps sp) (hr : Room k X.A) (hgd : X.A.guards = some [])
    (hg : Gl X x) (hm : X.mg x = some (.ref f)) (hk : PySem.W.keepIn X.K (.ref f) = true) (hb : Binds X.K fd ps [])
    (ha : PA X (e :: es) t) (hdb : (x == ("__debug__" : Str)) = false := by decide) (he : starEach (e :: es) X.env = (false, eval e X.env) :: starEach es X.env := by rfl) (hpl : (backTo pos (starEach es X.env)).any (·.1) = false := by rfl) :
    PE X (.Call (.Name x q) (e :: es) [] pos) (tCallE sp t) := by
  constructor
  intro pins s σ H Q I h
  refine wpAny_Call_Name_kw (ld_glob I hg hm ?_ hdb)
  refine PySem.W.callWith_K (h₀ := X.base) I.ok.mod.kin hk (thn (ha.run pos pins s σ H _ I h) ?_) he hpl
  rintro us s1 ⟨vs, H1, I1, r, hsp⟩
  refine ⟨I1.kIn, ?_⟩
  have hlen : us.length = ps.length := by rw [← r.length]; exact F.len _ _ _ _ hsp
  have hbind := hb s1 us I1.kIn (by rw [List.append_nil]; exact hlen)
  rw [List.append_nil] at hbind
  refine wpAny_call (codeAny_mono (F.run X.A X.stack s1 H1 ⟨us, []⟩ us vs Q hr hgd I1.env0 hbind r hsp) ?_)
  intro r s' hq
  cases r with
  | error e => exact False.elim hq
  | ok fl =>
    cases fl with
    | ret u => exact I1.after hq
    | next => exact False.elim hq
    | brk => exact False.elim hq
    | cont => exact False.elim hq
/-! ### repr of a list or a tuple of plain data -/
def rReprD (K : PySem.W.Frag) : List V → Hp → VK → Prop := fun xs H Q => ∃ (a : Addr) (d : PyData), xs = [.ref a] ∧ Dp K H (.ref a) d ∧ d.showable = true ∧ d.hasDict = false ∧ d.depth ≤ 8 ∧ d.shown.length ≤ sizeLine ∧ Q (.str d.shown) H
theorem call_reprD {X : Cx} {k : Nat} (hr : Room k X.A) (hgd : X.A.guards = some []) : CallR X (.builtin "repr") (rReprD X.K) := by
  intro pins s σ H xs us Q I r h
  obtain ⟨a, d, rfl, hd, h1, h2, h3, h4, q⟩ := h
  obtain rfl := Vals.ref1 r
  obtain ⟨as, rd⟩ := Dp.reads I d (.ref a) (.ref a) hd rfl
  have hu := hr.units
  refine repr_of_reads' rd h1 (fun z => by rw [h2] at z; cases z) hgd (by omega) (fun b o e => e) (fun h' u tk hk => ?_) h4
  exact ⟨.str d.shown, H, I.kept hk, ⟨u, rfl⟩, q⟩
end L2
end
section
set_option maxRecDepth 100000
set_option maxHeartbeats 4000000
namespace LamX
open PySem PySem.Spec PyProof.Rows L2
/-! ### x(lambda: body, e2): the def takes the lambda and one value -/
/-- the callee's body for any reading tl of the lambda; call(): its first parameter -/
def Gives2 (X : Cx) (Ng : List Str) (x : Str) (sg : Scope) (g : Addr) (cdg : Value) (bg : List Stmt) (a : Str) (q : Str) (TT : (XK → Hp → VK → Prop) → (Hp → Prop) → V → Hp → VK → Prop) : Prop :=
  ∀ (f c' : Addr) (s : Shared) (H : Hp) (Q : VK) (v2 : V) (tl : XK → Hp → VK → Prop),
    (∀ (W : WX) (pn : List (Addr × Obj)) (xe : Value → Shared → Prop) (E : XK) (p1 p2 : Pos), Takes ((cxOf C8.CX0 X.prog X.w X.K X.mg X.base Ng x sg g cdg X.A X.stack s H C8.E0).tr pn xe) W → (∀ cls d σ' H', E cls d H' → W cls d σ' H') →
      PE ((cxOf C8.CX0 X.prog X.w X.K X.mg X.base Ng x sg g cdg X.A X.stack s H C8.E0).tr pn xe) (.Call (.Name a p1) [] [] p2) (fun σZ HZ Q => σZ[0]? = some (some (.ref f)) ∧ HZ c' = some (CodeO c' q) ∧ tl E HZ Q)) →
    H c' = some (CodeO c' q) → TT tl (fun H' => H' c' = some (CodeO c' q)) v2 H Q →
    ∃ t, PSs (cxOf C8.CX0 X.prog X.w X.K X.mg X.base Ng x sg g cdg X.A X.stack s H C8.E0).nox bg t ∧ t { nx := fun _ H' => Q .non H', rt := Q } (L2.start Ng [.ref f, v2]) H
def tLam2 (T : List (Addr × Str)) (q : Str) (TT : (XK → Hp → VK → Prop) → (Hp → Prop) → V → Hp → VK → Prop) (t : XK → TE) (te : TE) : TE := fun σ H Q => Tabs T H ∧ ∀ H1 c', ExtN H H1 → Tabs T H1 → H1 c' = some (CodeO c' q) →
  te σ H1 fun x H2 => ∃ v2, [x] = [v2] ∧ H2 c' = some (CodeO c' q) ∧ TT (fun E H' Q' => t E σ H' Q') (fun H' => H' c' = some (CodeO c' q)) v2 H2 Q
end LamX
end
section
set_option maxRecDepth 100000
set_option maxHeartbeats 4000000
/-! ### checks of exception classes in the written part -/
namespace L2
open PySem PySem.Spec PyProof.Rows
/-- the class at C descends from ValueError by own classes, its __init__ is the def at f -/
def oexB (K : PySem.W.Frag) (C : Addr) : Bool := (match K.lookup C with
  | some ⟨.type t, _, .cls cd, sl⟩ => decide (t = "type") && (match cd.mro, sl.toList with
    | .ref C' :: bm, [_, _, _, _, some (.builtin n), _] => decide (C' = C) && (decide (n = "ValueError.__new__") && (!cd.hasDel && (cd.hasDict && PySem.HandSPX.refsVE bm)))
    | _, _ => false)
  | _ => false) && (decide (PySem.W.findIn K (.ref C) "__setattr__" = some (some (.builtin "object.__setattr__"))) && (decide (PySem.W.subIn K (.ref C) (.type "BaseException") = some true) && (decide (PySem.W.typeIn K (.ref C) = some (.type "type")) && PySem.W.keepIn K (.ref C))))
theorem and2 {a b : Bool} (h : (a && b) = true) : a = true ∧ b = true := Bool.and_eq_true_iff.mp h
theorem oexB_ok {K : PySem.W.Frag} {C : Addr} (h : oexB K C = true) : OexC K C := by
  obtain ⟨h1, h⟩ := and2 h
  obtain ⟨h2, h⟩ := and2 h
  obtain ⟨h3, h⟩ := and2 h
  obtain ⟨h4, h5⟩ := and2 h
  refine ⟨?_, of_decide_eq_true h2, of_decide_eq_true h3, of_decide_eq_true h4, h5⟩
  split at h1
  · rename_i t dd cd sl ho
    obtain ⟨ht, h1⟩ := and2 h1
    have ht := of_decide_eq_true ht
    subst ht
    split at h1
    · rename_i C' bm k0 k1 k2 k3 n k5 hm hs
      obtain ⟨e0, h1⟩ := and2 h1
      obtain ⟨e1, h1⟩ := and2 h1
      obtain ⟨e2, h1⟩ := and2 h1
      obtain ⟨e3, h1⟩ := and2 h1
      obtain ⟨e4, e5⟩ := and2 h1
      have g1 := of_decide_eq_true e1
      have g2 := of_decide_eq_true e2
      have g3 : cd.hasDel = false := by
        cases q : cd.hasDel with
        | false => rfl
        | true =>
          rw [q] at e3
          cases e3
      clear h1 e0 e1 e2 e3 h
      subst g1 g2
      obtain ⟨nm, bs, mro, ns, qn, hd, sn, sub, ab, col, del⟩ := cd
      dsimp only at hm g3 e4
      subst hm g3 e4
      have hsl : sl = #[k0, k1, k2, k3, some (.builtin "ValueError.__new__"), k5] := by
        obtain ⟨l⟩ := sl
        simp only at hs
        rw [hs]
      subst hsl
      exact ⟨_, _, _, _, bm, _, _, _, _, _, _, _, _, _, _, ho, e5⟩
    · cases h1
  · cases h1
/-- .. and asked by isinstance -/
def excCB (K : PySem.W.Frag) (D : Addr) : Bool := decide (PySem.W.findIn K (.ref D) "__getattribute__" = some (some (.builtin "BaseException.__getattribute__"))) && (decide (PySem.W.findIn K (.ref D) "__getattr__" = some none) &&
  (decide (PySem.W.subIn K (.ref D) (.type "BaseException") = some true) && (PySem.W.hasDictIn K D && (decide (PySem.W.findIn K (.ref D) "__class__" = some (some (.builtin "object.__class__"))) &&
  (decide (PySem.W.specialIn K (.builtin "object.__class__") "__get__" = some (some (.builtin "getset_descriptor.__get__"))) && (decide (PySem.W.takesIn K (.builtin "object.__class__") = some true) && decide (PySem.W.mroIn K D (.type "object") = some true)))))))
theorem excCB_ok {K : PySem.W.Frag} {D : Addr} (h : excCB K D = true) : ExcC K D := by
  obtain ⟨h1, h⟩ := and2 h
  obtain ⟨h2, h⟩ := and2 h
  obtain ⟨h3, h⟩ := and2 h
  obtain ⟨h4, h⟩ := and2 h
  obtain ⟨h5, h⟩ := and2 h
  obtain ⟨h6, h⟩ := and2 h
  obtain ⟨h7, h8⟩ := and2 h
  exact ⟨of_decide_eq_true h1, of_decide_eq_true h2, of_decide_eq_true h3, h4, of_decide_eq_true h5, of_decide_eq_true h6, of_decide_eq_true h7, of_decide_eq_true h8⟩
/-- the whole of a class that is raised: its __init__ at f, what its instances' fields ask -/
structure ExT (K : PySem.W.Frag) (C f : Addr) : Prop where
  oex : OexC K C
  init : PySem.W.findIn K (.ref C) "__init__" = some (some (.ref f))
  fn : PySem.W.typeIn K (.ref f) = some (.type "function")
  xf : XfC K C
  exc : ExcC K C
def exTB (K : PySem.W.Frag) (C f : Addr) : Bool := oexB K C && (decide (PySem.W.findIn K (.ref C) "__init__" = some (some (.ref f))) && (decide (PySem.W.typeIn K (.ref f) = some (.type "function")) && (xfB K C && excCB K C)))
theorem exTB_ok {K : PySem.W.Frag} {C f : Addr} (h : exTB K C f = true) : ExT K C f := by
  obtain ⟨h1, h⟩ := and2 h
  obtain ⟨h2, h⟩ := and2 h
  obtain ⟨h3, h⟩ := and2 h
  obtain ⟨h4, h5⟩ := and2 h
  exact ⟨oexB_ok h1, of_decide_eq_true h2, of_decide_eq_true h3, xfB_ok h4, excCB_ok h5⟩
abbrev FnP (K : PySem.W.Frag) (x : Str) (st : Stmt) (f : Addr) (fd : FuncData) : Prop := FunD K x x (defArgs st) (defBody st) (defScope st) [] [] f fd
abbrev FnM (K : PySem.W.Frag) (x q : Str) (st : Stmt) (f : Addr) (fd : FuncData) : Prop := FunD K x q (defArgs st) (defBody st) (defScope st) [] [] f fd
/-- a def of the top, known by its name, keeps the promise sp -/
structure Ok (P : Program) (w : World) (K : PySem.W.Frag) (mg : Str → Option Value) (base : Heap) (CX : CXT) (k : Nat) (x : Str) (ps : List Str) (sp : Sp) : Prop where
  ex : ∃ f fd, FnOk P w K mg base CX k f fd ps sp ∧ mg x = some (.ref f) ∧ PySem.W.keepIn K (.ref f) = true ∧ Binds K fd ps []
section
variable {P : Program} {w : World} {K : PySem.W.Frag} {mg : Str → Option Value} {base : Heap} {CX : CXT} {k j : Nat} {x : Str} {ps N : List Str} {sp sp' : Sp} {st : Stmt}
theorem Ok.mono (o : Ok P w K mg base CX j x ps sp) (h : j ≤ k) : Ok P w K mg base CX k x ps sp := by
  obtain ⟨f, fd, h1, h2⟩ := o.ex
  exact ⟨f, fd, h1.mono h, h2⟩
theorem Ok.imp (o : Ok P w K mg base CX k x ps sp) (h : ∀ vs H Q E, sp' vs H Q E → sp vs H Q E) : Ok P w K mg base CX k x ps sp' := by
  obtain ⟨f, fd, h1, h2⟩ := o.ex
  exact ⟨f, fd, h1.imp h, h2⟩
/-- a promise that is never asked -/
theorem Ok.never (e : ∃ f fd, FnP K x st f fd ∧ mg x = some (.ref f))
    (hb : ∀ (kV doc pm : Value) (an : Option Addr) (cdv ct : Value) (us : List Value), us.length = ps.length → bindArgs (PySem.W.fnOf x x (defArgs st) (defBody st) (defScope st) .none kV doc pm an cdv ct) ⟨us, []⟩ = pure (ps.zip us)) : Ok P w K mg base CX k x ps (fun _ _ _ _ => False) := by
  obtain ⟨f, fd, F, g⟩ := e
  exact ⟨f, fd, ⟨fun _ _ _ _ z => z.elim, fun _ _ _ _ _ _ _ _ _ _ _ _ _ z => z.elim⟩, g, F.kp, F.bindsN hb⟩
/-- a def that lets nothing out -/
theorem Ok.def0 (e : ∃ f fd, FnP K x st f fd ∧ mg x = some (.ref f))
    (hb : ∀ (kV doc pm : Value) (an : Option Addr) (cdv ct : Value) (us : List Value), us.length = ps.length → bindArgs (PySem.W.fnOf x x (defArgs st) (defBody st) (defScope st) .none kV doc pm an cdv ct) ⟨us, []⟩ = pure (ps.zip us))
    (S : FnScope N ps (defScope st)) (len : ∀ vs H Q E, sp vs H Q E → vs.length = ps.length)
    (hbody : ∀ (f : Addr) (cdv : Value) (A : Around) (outer : List Env) (s : Shared) (H : Hp) (vs : List V) (Q : VK) (E : XK), Room k (A.deeper (envOfC x (defScope st) s.heap.objs.size f cdv)) → sp vs H Q E →
      ∃ t, PSs (cxOf CX0 P w K mg base N x (defScope st) f cdv A outer s H E).nox (defBody st) t ∧ t { nx := fun _ H' => Q .non H', rt := Q } (start N vs) H) : Ok P w K mg base CX0 (k + 1) x ps sp := by
  obtain ⟨f, fd, F, g⟩ := e
  refine ⟨f, fd, F.ok S len fun cdv A outer s H vs Q E hr h => ?_, g, F.kp, F.bindsN hb⟩
  obtain ⟨t, h1, h2⟩ := hbody f cdv A outer s H vs Q E hr h
  exact ⟨t, h1.nox, h2⟩
/-- a def that may raise -/
theorem Ok.defX (e : ∃ f fd, FnP K x st f fd ∧ mg x = some (.ref f))
    (hb : ∀ (kV doc pm : Value) (an : Option Addr) (cdv ct : Value) (us : List Value), us.length = ps.length → bindArgs (PySem.W.fnOf x x (defArgs st) (defBody st) (defScope st) .none kV doc pm an cdv ct) ⟨us, []⟩ = pure (ps.zip us))
    (S : FnScope N ps (defScope st)) (len : ∀ vs H Q E, sp vs H Q E → vs.length = ps.length)
    (hbody : ∀ (f : Addr) (cdv : Value) (A : Around) (outer : List Env) (s : Shared) (H : Hp) (vs : List V) (Q : VK) (E : XK), Room k (A.deeper (envOfC x (defScope st) s.heap.objs.size f cdv)) → sp vs H Q E →
      Takes (cxOf (L2.CX P w) P w K mg base N x (defScope st) f cdv A outer s H E) (fun cls d _ H => E cls d H) →
      ∃ t, PSs (cxOf (L2.CX P w) P w K mg base N x (defScope st) f cdv A outer s H E) (defBody st) t ∧ t { nx := fun _ H' => Q .non H', rt := Q } (start N vs) H) : Ok P w K mg base (L2.CX P w) (k + 1) x ps sp := by
  obtain ⟨f, fd, F, g⟩ := e
  refine ⟨f, fd, F.ok S len fun cdv A outer s H vs Q E hr h => ?_, g, F.kp, F.bindsN hb⟩
  exact hbody f cdv A outer s H vs Q E hr h (takes_of rfl rfl rfl rfl)
end
section
variable {X : Cx} {CX : CXT} {k : Nat} {x : Str} {ps : List Str} {sp : Sp} {E : XK} {p pos : Pos} {e : Expr} {es : List Expr} {t : TA}
theorem pe_ok (O : Ok X.prog X.w X.K X.mg X.base CX k x ps sp) (hr : Room k X.A) (hg : Gl X x) (hx : Passes CX X E) (ha : PA X (e :: es) t)
    (hdb : (x == ("__debug__" : Str)) = false := by decide) (he : starEach (e :: es) X.env = (false, eval e X.env) :: starEach es X.env := by rfl) (hpl : (backTo pos (starEach es X.env)).any (·.1) = false := by rfl) :
    PE X (.Call (.Name x p) (e :: es) [] pos) (tCall sp [] E t) := by
  obtain ⟨f, fd, F, hm, hk, hb⟩ := O.ex
  exact pe_call F hr hg hm hk hb .nil hx ha hdb he hpl
/-- what is raised is wished for at the caller's slots -/
theorem pe_okS {E : St → XK} (O : Ok X.prog X.w X.K X.mg X.base CX k x ps sp) (hr : Room k X.A) (hg : Gl X x) (hx : ∀ σ, PassesAt CX X σ (E σ)) (ha : PA X (e :: es) t)
    (hdb : (x == ("__debug__" : Str)) = false := by decide) (he : starEach (e :: es) X.env = (false, eval e X.env) :: starEach es X.env := by rfl) (hpl : (backTo pos (starEach es X.env)).any (·.1) = false := by rfl) :
    PE X (.Call (.Name x p) (e :: es) [] pos) (tCallS sp E t) := by
  obtain ⟨f, fd, F, hm, hk, hb⟩ := O.ex
  exact pe_callS F hr hg hm hk hb hx ha hdb he hpl
end
/-- an own exception class, known by its name, whose __init__ keeps sp -/
structure XOk (P : Program) (w : World) (K : PySem.W.Frag) (mg : Str → Option Value) (base : Heap) (k : Nat) (x : Str) (C : Addr) (ps : List Str) (sp : Sp) : Prop where
  ex : ∃ f fd, ExT K C f ∧ FnOk P w K mg base CX0 k f fd ps sp ∧ mg x = some (.ref C) ∧ Binds K fd ps []
theorem pmk_x {X : Cx} {k : Nat} {x : Str} {C : Addr} {ps : List Str} {sp : Sp} {p pos : Pos} {e : Expr} {es : List Expr} {ta : TA} (O : XOk X.prog X.w X.K X.mg X.base k x C ps sp) (hr : Room (k + 1) X.A) (hg : Gl X x) (ha : PA X (e :: es) ta)
    (hdb : (x == ("__debug__" : Str)) = false := by decide) (he : starEach (e :: es) X.env = (false, eval e X.env) :: starEach es X.env := by rfl) (hpl : (backTo pos (starEach es X.env)).any (·.1) = false := by rfl) :
    PMk X (.Call (.Name x p) (e :: es) [] pos) (tMkO C sp [] ta) := by
  obtain ⟨f, fd, T, F, hm, hb⟩ := O.ex
  exact pmk_oex T.oex T.init T.fn F hr hb .nil pass0 hg hm ha hdb he hpl
end L2
end
section
set_option maxRecDepth 100000
set_option maxHeartbeats 4000000
/-! ### the head's facts, the interpreter's own statics among what is looked at -/
namespace He
open PySem PySem.Spec PyProof.Rows L2
def asS (g : Addr → Option Obj) (n : Nat) : List Addr := PySem.cStatics :: asD g n
def obsS (n : Nat) (fa : List Fa) (fn : List DefD) (ts : List Tab) (tf : List Defn) (ex : PySem.W.Frag → Bool) (g : Addr → Option Obj) : AlX := (obsT fa fn ts (frT g (asS g n)), ex (frT g (asS g n)) && tabsB g tf (frT g (asS g n)))
theorem saysS_of {n : Nat} {fa : List Fa} {fn : List DefD} {ts : List Tab} {tf : List Defn} {ex : PySem.W.Frag → Bool} {w : World} {h : Heap} (e : obsS n fa fn ts tf ex h.get? = valX fn ts w) : SaysX fa fn ts tf ex w h (frT h.get? (asS h.get? n)) := by
  have e1 := congrArg Prod.fst e
  have e2 : (ex (frT h.get? (asS h.get? n)) && tabsB h.get? tf (frT h.get? (asS h.get? n))) = true := congrArg Prod.snd e
  obtain ⟨hx, ht⟩ := ba e2
  have tab : ∀ p ∈ tf, PySem.W.codeHdIn (frT h.get? (asS h.get? n)) (cT (frT h.get? (asS h.get? n)) p).1 (cT (frT h.get? (asS h.get? n)) p).2 = true ∧ ∃ o, h.get? (cT (frT h.get? (asS h.get? n)) p).2 = some o ∧ emptyTab o = true := by
    intro p hp
    obtain ⟨c1, c2⟩ := ba (List.all_eq_true.mp ht p hp)
    refine ⟨c1, ?_⟩
    revert c2
    cases h.get? (cT (frT h.get? (asS h.get? n)) p).2 with
    | none => exact fun z => by cases z
    | some o => exact fun z => ⟨o, rfl, z⟩
  exact {
    t := e1
    more := hx
    hd := fun p hp => (tab p hp).1
    out := fun p hp => let ⟨_, o, q, z⟩ := tab p hp; frT_none q z
    empty := fun p hp => let ⟨_, o, q, z⟩ := tab p hp; by rw [q, emptyTab_eq z] }
def hookS (n : Nat) (fa : List Fa) (fn : List DefD) (ts : List Tab) (tf : List Defn) (ex : PySem.W.Frag → Bool) : PySem.W.Hook where
  α := AlX
  obs := fun s => obsS n fa fn ts tf ex s.heap.get?
  val := fun w => valX fn ts w
  says := fun w h => ∃ K : PySem.W.Frag, K.In h ∧ SaysX fa fn ts tf ex w h K
  of := fun _ _ e => ⟨_, frT_in, saysS_of e⟩
  keeps := fun _ _ _ ⟨K, hK, c⟩ k => ⟨K, PySem.W.Frag.In.keeps hK k, ⟨c.t, c.more, c.hd, c.out, fun p hp => k _ _ (c.empty p hp)⟩⟩
theorem obsS_eq {n : Nat} {fa : List Fa} {fn : List DefD} {ts : List Tab} {tf : List Defn} {ex : PySem.W.Frag → Bool} {g : Addr → Option Obj} {s : Shared} (h : ∀ a, g a = s.heap.get? a) : obsS n fa fn ts tf ex g = (hookS n fa fn ts tf ex).obs s := by
  obtain rfl : g = s.heap.get? := funext h
  rfl
end He
end
section
set_option maxRecDepth 100000
set_option maxHeartbeats 4000000
namespace K04
open PySem PySem.Spec PyProof.Rows L2
def top (i : Nat) : Stmt := PySem.Challenge.pw_seenenough_k04_windows_counted_and_serve.main.body.getD i (.Pass ⟨0, 0, 0, 0⟩)
abbrev s_check : Stmt := top 22
theorem sc_check : FnScope ["what", "number"] ["what", "number"] (defScope s_check) := ⟨rfl, rfl, rfl, by decide +kernel, rfl, by decide +kernel, by decide +kernel⟩
abbrev s_check_day : Stmt := top 23
theorem sc_check_day : FnScope ["day", "first", "days"] ["day", "first", "days"] (defScope s_check_day) := ⟨rfl, rfl, rfl, by decide +kernel, rfl, by decide +kernel, by decide +kernel⟩
abbrev s_check_stretch : Stmt := top 25
theorem sc_check_stretch : FnScope ["a", "b", "days"] ["a", "b", "days"] (defScope s_check_stretch) := ⟨rfl, rfl, rfl, by decide +kernel, rfl, by decide +kernel, by decide +kernel⟩
abbrev s_first_served : Stmt := top 27
theorem sc_first_served : FnScope ["order", "cans", "row"] ["order", "cans"] (defScope s_first_served) := ⟨rfl, rfl, rfl, by decide +kernel, rfl, by decide +kernel, by decide +kernel⟩
abbrev s__law_b_told : Stmt := top 31
theorem sc__law_b_told : FnScope ["error", "found"] ["error"] (defScope s__law_b_told) := ⟨rfl, rfl, rfl, by decide +kernel, rfl, by decide +kernel, by decide +kernel⟩
abbrev s__law_b_refused : Stmt := top 32
theorem sc__law_b_refused : FnScope ["call", "due", "found", "raised"] ["call", "due"] (defScope s__law_b_refused) := ⟨rfl, rfl, rfl, by decide +kernel, rfl, by decide +kernel, by decide +kernel⟩
abbrev s__law_b_windows : Stmt := top 33
theorem sc__law_b_windows : FnScope ["stock", "days", "many", "found", "turn", "kind", "first", "last"] ["stock", "days", "many"] (defScope s__law_b_windows) := ⟨rfl, rfl, rfl, by decide +kernel, rfl, by decide +kernel, by decide +kernel⟩
abbrev s__law_stock : Stmt := top 34
theorem sc__law_stock : FnScope ["script", "at", "one", "cell", "size", "small"] ["script", "at"] (defScope s__law_stock) := ⟨rfl, rfl, rfl, by decide +kernel, rfl, by decide +kernel, by decide +kernel⟩
abbrev s__law_draw : Stmt := top 35
theorem sc__law_draw : FnScope ["stock", "many", "found"] ["stock", "many"] (defScope s__law_draw) := ⟨rfl, rfl, rfl, by decide +kernel, rfl, by decide +kernel, by decide +kernel⟩
abbrev s__law_matches : Stmt := top 36
theorem sc__law_matches : FnScope ["answer", "due", "key", "at"] ["answer", "due"] (defScope s__law_matches) := ⟨rfl, rfl, rfl, by decide +kernel, rfl, by decide +kernel, by decide +kernel⟩
abbrev s__law_k04_inside : Stmt := top 37
theorem sc__law_k04_inside : FnScope ["windows", "a", "b", "window"] ["windows", "a", "b"] (defScope s__law_k04_inside) := ⟨rfl, rfl, rfl, by decide +kernel, rfl, by decide +kernel, by decide +kernel⟩
abbrev s__law_k04_wet : Stmt := top 38
theorem sc__law_k04_wet : FnScope ["stock", "windows", "day", "wet", "at", "window"] ["stock", "windows", "day"] (defScope s__law_k04_wet) := ⟨rfl, rfl, rfl, by decide +kernel, rfl, by decide +kernel, by decide +kernel⟩
abbrev s__law_k04_served : Stmt := top 39
theorem sc__law_k04_served : FnScope ["windows", "wet", "day", "cans", "rows", "at", "window", "row"] ["windows", "wet", "day", "cans"] (defScope s__law_k04_served) := ⟨rfl, rfl, rfl, by decide +kernel, rfl, by decide +kernel, by decide +kernel⟩
abbrev s__law_k04_counts : Stmt := top 40
theorem sc__law_k04_counts : FnScope ["days", "windows", "garden", "told", "b", "a", "day", "at", "due"] ["days", "windows", "garden"] (defScope s__law_k04_counts) := ⟨rfl, rfl, rfl, by decide +kernel, rfl, by decide +kernel, by decide +kernel⟩
abbrev s__law_k04_serving : Stmt := top 41
theorem sc__law_k04_serving : FnScope ["stock", "days", "windows", "garden", "day", "wet", "handed", "seed", "ready", "cans", "due", "told"] ["stock", "days", "windows", "garden"] (defScope s__law_k04_serving) := ⟨rfl, rfl, rfl, by decide +kernel, rfl, by decide +kernel, by decide +kernel⟩
abbrev s__law_k04_changed : Stmt := top 42
theorem sc__law_k04_changed : FnScope ["days", "windows", "garden", "more", "day", "window", "kept", "made", "handed", "wider"] ["days", "windows", "garden", "more"] (defScope s__law_k04_changed) := ⟨rfl, rfl, rfl, by decide +kernel, rfl, by decide +kernel, by decide +kernel⟩
abbrev s__law_k04_days : Stmt := top 43
theorem sc__law_k04_days : FnScope ["days", "garden", "far", "day"] ["days", "garden"] (defScope s__law_k04_days) := ⟨rfl, rfl, rfl, by decide +kernel, rfl, by decide +kernel, by decide +kernel⟩
abbrev s__law_k04_wrong : Stmt := top 44
theorem sc__law_k04_wrong : FnScope ["stock", "days", "kind", "first"] ["stock", "days"] (defScope s__law_k04_wrong) := ⟨rfl, rfl, rfl, by decide +kernel, rfl, by decide +kernel, by decide +kernel⟩
abbrev s__law_k04_refusals : Stmt := top 45
theorem sc__law_k04_refusals : FnScope ["stock", "days", "windows", "garden", "place", "wrong", "other", "rows", "rest", "full"] ["stock", "days", "windows", "garden"] (defScope s__law_k04_refusals) := ⟨rfl, rfl, rfl, by decide +kernel, rfl, by decide +kernel, by decide +kernel⟩
abbrev s_law : Stmt := top 46
theorem sc_law : FnScope ["script", "stock", "great", "worlds", "at", "one", "days", "many", "world", "handed", "made", "third", "row", "turn", "windows", "more"] ["script"] (defScope s_law) := ⟨rfl, rfl, rfl, by decide +kernel, rfl, by decide +kernel, by decide +kernel⟩
abbrev s_TooMany___init__ : Stmt := inClass (top 3) 0
theorem sc_TooMany___init__ : FnScope ["self", "what"] ["self", "what"] (defScope s_TooMany___init__) := ⟨rfl, rfl, rfl, by decide +kernel, rfl, by decide +kernel, by decide +kernel⟩
abbrev s_BadGarden___init__ : Stmt := inClass (top 7) 0
theorem sc_BadGarden___init__ : FnScope ["self", "row"] ["self", "row"] (defScope s_BadGarden___init__) := ⟨rfl, rfl, rfl, by decide +kernel, rfl, by decide +kernel, by decide +kernel⟩
abbrev s_BadDay___init__ : Stmt := inClass (top 17) 0
theorem sc_BadDay___init__ : FnScope ["self", "day"] ["self", "day"] (defScope s_BadDay___init__) := ⟨rfl, rfl, rfl, by decide +kernel, rfl, by decide +kernel, by decide +kernel⟩
abbrev s_Garden___init__ : Stmt := inClass (top 29) 0
theorem sc_Garden___init__ : FnScope ["self", "days", "seeds", "at", "first", "last"] ["self", "days", "seeds"] (defScope s_Garden___init__) := ⟨rfl, rfl, rfl, by decide +kernel, rfl, by decide +kernel, by decide +kernel⟩
abbrev s_Garden_days : Stmt := inClass (top 29) 1
theorem sc_Garden_days : FnScope ["self"] ["self"] (defScope s_Garden_days) := ⟨rfl, rfl, rfl, by decide +kernel, rfl, by decide +kernel, by decide +kernel⟩
abbrev s_Garden_many : Stmt := inClass (top 29) 2
theorem sc_Garden_many : FnScope ["self"] ["self"] (defScope s_Garden_many) := ⟨rfl, rfl, rfl, by decide +kernel, rfl, by decide +kernel, by decide +kernel⟩
abbrev s_Garden_rows : Stmt := inClass (top 29) 3
theorem sc_Garden_rows : FnScope ["self"] ["self"] (defScope s_Garden_rows) := ⟨rfl, rfl, rfl, by decide +kernel, rfl, by decide +kernel, by decide +kernel⟩
abbrev s_Garden_inside : Stmt := inClass (top 29) 4
theorem sc_Garden_inside : FnScope ["self", "a", "b", "first", "last"] ["self", "a", "b"] (defScope s_Garden_inside) := ⟨rfl, rfl, rfl, by decide +kernel, rfl, by decide +kernel, by decide +kernel⟩
abbrev s_Garden_open_on : Stmt := inClass (top 29) 10
theorem sc_Garden_open_on : FnScope ["self", "day", "found", "at"] ["self", "day"] (defScope s_Garden_open_on) := ⟨rfl, rfl, rfl, by decide +kernel, rfl, by decide +kernel, by decide +kernel⟩
abbrev s_Garden_serve : Stmt := inClass (top 29) 11
theorem sc_Garden_serve : FnScope ["self", "wet", "day", "cans", "order", "seed", "first", "last"] ["self", "wet", "day", "cans"] (defScope s_Garden_serve) := ⟨rfl, rfl, rfl, by decide +kernel, rfl, by decide +kernel, by decide +kernel⟩
abbrev s_Garden_cut : Stmt := inClass (top 29) 12
theorem sc_Garden_cut : FnScope ["self", "day", "row"] ["self", "day"] (defScope s_Garden_cut) := ⟨rfl, rfl, rfl, by decide +kernel, rfl, by decide +kernel, by decide +kernel⟩
abbrev s_Garden_with_seeds : Stmt := inClass (top 29) 13
theorem sc_Garden_with_seeds : FnScope ["self", "windows", "first", "last"] ["self", "windows"] (defScope s_Garden_with_seeds) := ⟨rfl, rfl, rfl, by decide +kernel, rfl, by decide +kernel, by decide +kernel⟩
def d_check : He.DefD := ⟨("check", none), "check", "check", defArgs s_check, defBody s_check, defScope s_check, [], []⟩
def d_check_day : He.DefD := ⟨("check_day", none), "check_day", "check_day", defArgs s_check_day, defBody s_check_day, defScope s_check_day, [], []⟩
def d_check_stretch : He.DefD := ⟨("check_stretch", none), "check_stretch", "check_stretch", defArgs s_check_stretch, defBody s_check_stretch, defScope s_check_stretch, [], []⟩
def d_first_served : He.DefD := ⟨("first_served", none), "first_served", "first_served", defArgs s_first_served, defBody s_first_served, defScope s_first_served, [], []⟩
def d__law_b_told : He.DefD := ⟨("_law_b_told", none), "_law_b_told", "_law_b_told", defArgs s__law_b_told, defBody s__law_b_told, defScope s__law_b_told, [], []⟩
def d__law_b_refused : He.DefD := ⟨("_law_b_refused", none), "_law_b_refused", "_law_b_refused", defArgs s__law_b_refused, defBody s__law_b_refused, defScope s__law_b_refused, [], []⟩
def d__law_b_windows : He.DefD := ⟨("_law_b_windows", none), "_law_b_windows", "_law_b_windows", defArgs s__law_b_windows, defBody s__law_b_windows, defScope s__law_b_windows, [], []⟩
def d__law_stock : He.DefD := ⟨("_law_stock", none), "_law_stock", "_law_stock", defArgs s__law_stock, defBody s__law_stock, defScope s__law_stock, [], []⟩
def d__law_draw : He.DefD := ⟨("_law_draw", none), "_law_draw", "_law_draw", defArgs s__law_draw, defBody s__law_draw, defScope s__law_draw, [], []⟩
def d__law_matches : He.DefD := ⟨("_law_matches", none), "_law_matches", "_law_matches", defArgs s__law_matches, defBody s__law_matches, defScope s__law_matches, [], []⟩
def d__law_k04_inside : He.DefD := ⟨("_law_k04_inside", none), "_law_k04_inside", "_law_k04_inside", defArgs s__law_k04_inside, defBody s__law_k04_inside, defScope s__law_k04_inside, [], []⟩
def d__law_k04_wet : He.DefD := ⟨("_law_k04_wet", none), "_law_k04_wet", "_law_k04_wet", defArgs s__law_k04_wet, defBody s__law_k04_wet, defScope s__law_k04_wet, [], []⟩
def d__law_k04_served : He.DefD := ⟨("_law_k04_served", none), "_law_k04_served", "_law_k04_served", defArgs s__law_k04_served, defBody s__law_k04_served, defScope s__law_k04_served, [], []⟩
def d__law_k04_counts : He.DefD := ⟨("_law_k04_counts", none), "_law_k04_counts", "_law_k04_counts", defArgs s__law_k04_counts, defBody s__law_k04_counts, defScope s__law_k04_counts, [], []⟩
def d__law_k04_serving : He.DefD := ⟨("_law_k04_serving", none), "_law_k04_serving", "_law_k04_serving", defArgs s__law_k04_serving, defBody s__law_k04_serving, defScope s__law_k04_serving, [], []⟩
def d__law_k04_changed : He.DefD := ⟨("_law_k04_changed", none), "_law_k04_changed", "_law_k04_changed", defArgs s__law_k04_changed, defBody s__law_k04_changed, defScope s__law_k04_changed, [], []⟩
def d__law_k04_days : He.DefD := ⟨("_law_k04_days", none), "_law_k04_days", "_law_k04_days", defArgs s__law_k04_days, defBody s__law_k04_days, defScope s__law_k04_days, [], []⟩
def d__law_k04_wrong : He.DefD := ⟨("_law_k04_wrong", none), "_law_k04_wrong", "_law_k04_wrong", defArgs s__law_k04_wrong, defBody s__law_k04_wrong, defScope s__law_k04_wrong, [], []⟩
def d__law_k04_refusals : He.DefD := ⟨("_law_k04_refusals", none), "_law_k04_refusals", "_law_k04_refusals", defArgs s__law_k04_refusals, defBody s__law_k04_refusals, defScope s__law_k04_refusals, [], []⟩
def d_law : He.DefD := ⟨("law", none), "law", "law", defArgs s_law, defBody s_law, defScope s_law, [], []⟩
def d_TooMany___init__ : He.DefD := ⟨("TooMany", some "__init__"), "__init__", "TooMany.__init__", defArgs s_TooMany___init__, defBody s_TooMany___init__, defScope s_TooMany___init__, [], []⟩
def d_BadGarden___init__ : He.DefD := ⟨("BadGarden", some "__init__"), "__init__", "BadGarden.__init__", defArgs s_BadGarden___init__, defBody s_BadGarden___init__, defScope s_BadGarden___init__, [], []⟩
def d_BadDay___init__ : He.DefD := ⟨("BadDay", some "__init__"), "__init__", "BadDay.__init__", defArgs s_BadDay___init__, defBody s_BadDay___init__, defScope s_BadDay___init__, [], []⟩
def d_Garden___init__ : He.DefD := ⟨("Garden", some "__init__"), "__init__", "Garden.__init__", defArgs s_Garden___init__, defBody s_Garden___init__, defScope s_Garden___init__, [], []⟩
def d_Garden_days : He.DefD := ⟨("Garden", some "days"), "days", "Garden.days", defArgs s_Garden_days, defBody s_Garden_days, defScope s_Garden_days, [], []⟩
def d_Garden_many : He.DefD := ⟨("Garden", some "many"), "many", "Garden.many", defArgs s_Garden_many, defBody s_Garden_many, defScope s_Garden_many, [], []⟩
def d_Garden_rows : He.DefD := ⟨("Garden", some "rows"), "rows", "Garden.rows", defArgs s_Garden_rows, defBody s_Garden_rows, defScope s_Garden_rows, [], []⟩
def d_Garden_inside : He.DefD := ⟨("Garden", some "inside"), "inside", "Garden.inside", defArgs s_Garden_inside, defBody s_Garden_inside, defScope s_Garden_inside, [], []⟩
def d_Garden_open_on : He.DefD := ⟨("Garden", some "open_on"), "open_on", "Garden.open_on", defArgs s_Garden_open_on, defBody s_Garden_open_on, defScope s_Garden_open_on, [], []⟩
def d_Garden_serve : He.DefD := ⟨("Garden", some "serve"), "serve", "Garden.serve", defArgs s_Garden_serve, defBody s_Garden_serve, defScope s_Garden_serve, [], []⟩
def d_Garden_cut : He.DefD := ⟨("Garden", some "cut"), "cut", "Garden.cut", defArgs s_Garden_cut, defBody s_Garden_cut, defScope s_Garden_cut, [], []⟩
def d_Garden_with_seeds : He.DefD := ⟨("Garden", some "with_seeds"), "with_seeds", "Garden.with_seeds", defArgs s_Garden_with_seeds, defBody s_Garden_with_seeds, defScope s_Garden_with_seeds, [], []⟩
def fn : List He.DefD := [d_check, d_check_day, d_check_stretch, d_first_served, d__law_b_told, d__law_b_refused, d__law_b_windows, d__law_stock, d__law_draw, d__law_matches, d__law_k04_inside, d__law_k04_wet, d__law_k04_served, d__law_k04_counts, d__law_k04_serving, d__law_k04_changed, d__law_k04_days, d__law_k04_wrong, d__law_k04_refusals, d_law, d_TooMany___init__, d_BadGarden___init__, d_BadDay___init__, d_Garden___init__, d_Garden_days, d_Garden_many, d_Garden_rows, d_Garden_inside, d_Garden_open_on, d_Garden_serve, d_Garden_cut, d_Garden_with_seeds]
def fa : List He.Fa := [.glo "check", .glo "check_day", .glo "check_stretch", .glo "first_served", .glo "_law_b_told", .glo "_law_b_refused", .glo "_law_b_windows", .glo "_law_stock", .glo "_law_draw", .glo "_law_matches", .glo "_law_k04_inside", .glo "_law_k04_wet", .glo "_law_k04_served", .glo "_law_k04_counts", .glo "_law_k04_serving", .glo "_law_k04_changed", .glo "_law_k04_days", .glo "_law_k04_wrong", .glo "_law_k04_refusals", .glo "law", .glo "SeenError", .glo "TooMany", .glo "BadSky", .glo "BadWeather", .glo "BadReport", .glo "BadGarden", .glo "BadSetting", .glo "BadHouse", .glo "BadDay", .glo "BadText", .glo "NotKept", .glo "Unsafe", .glo "BadCalls", .glo "BadOffers", .glo "BadTable", .glo "BadRow", .glo "BadCalendar", .glo "BadDeed", .glo "Garden", .glo "LIMITS", .free "len", .free "max", .free "min", .free "list", .free "int", .free "abs", .free "sum", .free "isinstance", .free "range", .free "sorted", .free "bool", .free "str", .free "dict", .free "tuple", .free "ValueError", .cls "Garden", .mkr "Garden", .noat "Garden" "days_number", .noat "Garden" "seed_list", .meth "Garden" "days", .meth "Garden" "many", .meth "Garden" "rows", .meth "Garden" "inside", .meth "Garden" "open_on", .meth "Garden" "serve", .meth "Garden" "cut", .meth "Garden" "with_seeds"]
def tf : List He.Defn := [("_law_k04_days", none), ("_law_k04_refusals", none)]
def ts : List He.Tab := []
def limits : List (Str × He.Dv) := [("days", .int 24), ("rains", .int 40), ("cans", .int 1000000000000), ("seeds", .int 120), ("weathers", .int 100), ("calls", .int 60), ("price", .int 1000000000000), ("offers", .int 120), ("trials", .int 6), ("lot", .int 14), ("houses", .int 6), ("row", .int 4), ("deeds", .int 120)]
def limKeys : List Str := ["days", "rains", "cans", "seeds", "weathers", "calls", "price", "offers", "trials", "lot", "houses", "row", "deeds"]
def exs (K : PySem.W.Frag) : List Bool := [He.valsB K (He.ga K "LIMITS") limits,
  seB K (He.ga K "SeenError"),
  exTB K (He.ga K "TooMany") (He.ma K (He.ga K "TooMany") "__init__"),
  decide (PySem.W.findIn K (.ref (He.ga K "TooMany")) "what" = some none),
  decide (PySem.W.exmOne K (.ref (He.ga K "TooMany")) (.ref (He.ga K "SeenError")) = some true),
  decide (PySem.W.kitOne K (.ref (He.ga K "TooMany")) (.ref (He.ga K "TooMany")) = some true),
  decide (PySem.W.kitOne K (.ref (He.ga K "TooMany")) (.ref (He.ga K "BadSky")) = some false),
  decide (PySem.W.kitOne K (.ref (He.ga K "TooMany")) (.ref (He.ga K "BadWeather")) = some false),
  decide (PySem.W.kitOne K (.ref (He.ga K "TooMany")) (.ref (He.ga K "BadReport")) = some false),
  decide (PySem.W.kitOne K (.ref (He.ga K "TooMany")) (.ref (He.ga K "BadGarden")) = some false),
  decide (PySem.W.kitOne K (.ref (He.ga K "TooMany")) (.ref (He.ga K "BadSetting")) = some false),
  decide (PySem.W.kitOne K (.ref (He.ga K "TooMany")) (.ref (He.ga K "BadHouse")) = some false),
  decide (PySem.W.kitOne K (.ref (He.ga K "TooMany")) (.ref (He.ga K "BadDay")) = some false),
  decide (PySem.W.kitOne K (.ref (He.ga K "TooMany")) (.ref (He.ga K "BadText")) = some false),
  decide (PySem.W.kitOne K (.ref (He.ga K "TooMany")) (.ref (He.ga K "NotKept")) = some false),
  decide (PySem.W.kitOne K (.ref (He.ga K "TooMany")) (.ref (He.ga K "Unsafe")) = some false),
  decide (PySem.W.kitOne K (.ref (He.ga K "TooMany")) (.ref (He.ga K "BadCalls")) = some false),
  decide (PySem.W.kitOne K (.ref (He.ga K "TooMany")) (.ref (He.ga K "BadOffers")) = some false),
  decide (PySem.W.kitOne K (.ref (He.ga K "TooMany")) (.ref (He.ga K "BadTable")) = some false),
  decide (PySem.W.kitOne K (.ref (He.ga K "TooMany")) (.ref (He.ga K "BadRow")) = some false),
  decide (PySem.W.kitOne K (.ref (He.ga K "TooMany")) (.ref (He.ga K "BadCalendar")) = some false),
  decide (PySem.W.kitOne K (.ref (He.ga K "TooMany")) (.ref (He.ga K "BadDeed")) = some false),
  decide (PySem.W.kitOne K (.ref (He.ga K "TooMany")) (.type "ValueError") = some true),
  exTB K (He.ga K "BadGarden") (He.ma K (He.ga K "BadGarden") "__init__"),
  decide (PySem.W.findIn K (.ref (He.ga K "BadGarden")) "row" = some none),
  decide (PySem.W.exmOne K (.ref (He.ga K "BadGarden")) (.ref (He.ga K "SeenError")) = some true),
  decide (PySem.W.kitOne K (.ref (He.ga K "BadGarden")) (.ref (He.ga K "TooMany")) = some false),
  decide (PySem.W.kitOne K (.ref (He.ga K "BadGarden")) (.ref (He.ga K "BadSky")) = some false),
  decide (PySem.W.kitOne K (.ref (He.ga K "BadGarden")) (.ref (He.ga K "BadWeather")) = some false),
  decide (PySem.W.kitOne K (.ref (He.ga K "BadGarden")) (.ref (He.ga K "BadReport")) = some false),
  decide (PySem.W.kitOne K (.ref (He.ga K "BadGarden")) (.ref (He.ga K "BadGarden")) = some true),
  decide (PySem.W.kitOne K (.ref (He.ga K "BadGarden")) (.ref (He.ga K "BadSetting")) = some false),
  decide (PySem.W.kitOne K (.ref (He.ga K "BadGarden")) (.ref (He.ga K "BadHouse")) = some false),
  decide (PySem.W.kitOne K (.ref (He.ga K "BadGarden")) (.ref (He.ga K "BadDay")) = some false),
  decide (PySem.W.kitOne K (.ref (He.ga K "BadGarden")) (.ref (He.ga K "BadText")) = some false),
  decide (PySem.W.kitOne K (.ref (He.ga K "BadGarden")) (.ref (He.ga K "NotKept")) = some false),
  decide (PySem.W.kitOne K (.ref (He.ga K "BadGarden")) (.ref (He.ga K "Unsafe")) = some false),
  decide (PySem.W.kitOne K (.ref (He.ga K "BadGarden")) (.ref (He.ga K "BadCalls")) = some false),
  decide (PySem.W.kitOne K (.ref (He.ga K "BadGarden")) (.ref (He.ga K "BadOffers")) = some false),
  decide (PySem.W.kitOne K (.ref (He.ga K "BadGarden")) (.ref (He.ga K "BadTable")) = some false),
  decide (PySem.W.kitOne K (.ref (He.ga K "BadGarden")) (.ref (He.ga K "BadRow")) = some false),
  decide (PySem.W.kitOne K (.ref (He.ga K "BadGarden")) (.ref (He.ga K "BadCalendar")) = some false),
  decide (PySem.W.kitOne K (.ref (He.ga K "BadGarden")) (.ref (He.ga K "BadDeed")) = some false),
  decide (PySem.W.kitOne K (.ref (He.ga K "BadGarden")) (.type "ValueError") = some true),
  exTB K (He.ga K "BadDay") (He.ma K (He.ga K "BadDay") "__init__"),
  decide (PySem.W.findIn K (.ref (He.ga K "BadDay")) "day" = some none),
  decide (PySem.W.exmOne K (.ref (He.ga K "BadDay")) (.ref (He.ga K "SeenError")) = some true),
  decide (PySem.W.kitOne K (.ref (He.ga K "BadDay")) (.ref (He.ga K "TooMany")) = some false),
  decide (PySem.W.kitOne K (.ref (He.ga K "BadDay")) (.ref (He.ga K "BadSky")) = some false),
  decide (PySem.W.kitOne K (.ref (He.ga K "BadDay")) (.ref (He.ga K "BadWeather")) = some false),
  decide (PySem.W.kitOne K (.ref (He.ga K "BadDay")) (.ref (He.ga K "BadReport")) = some false),
  decide (PySem.W.kitOne K (.ref (He.ga K "BadDay")) (.ref (He.ga K "BadGarden")) = some false),
  decide (PySem.W.kitOne K (.ref (He.ga K "BadDay")) (.ref (He.ga K "BadSetting")) = some false),
  decide (PySem.W.kitOne K (.ref (He.ga K "BadDay")) (.ref (He.ga K "BadHouse")) = some false),
  decide (PySem.W.kitOne K (.ref (He.ga K "BadDay")) (.ref (He.ga K "BadDay")) = some true),
  decide (PySem.W.kitOne K (.ref (He.ga K "BadDay")) (.ref (He.ga K "BadText")) = some false),
  decide (PySem.W.kitOne K (.ref (He.ga K "BadDay")) (.ref (He.ga K "NotKept")) = some false),
  decide (PySem.W.kitOne K (.ref (He.ga K "BadDay")) (.ref (He.ga K "Unsafe")) = some false),
  decide (PySem.W.kitOne K (.ref (He.ga K "BadDay")) (.ref (He.ga K "BadCalls")) = some false),
  decide (PySem.W.kitOne K (.ref (He.ga K "BadDay")) (.ref (He.ga K "BadOffers")) = some false),
  decide (PySem.W.kitOne K (.ref (He.ga K "BadDay")) (.ref (He.ga K "BadTable")) = some false),
  decide (PySem.W.kitOne K (.ref (He.ga K "BadDay")) (.ref (He.ga K "BadRow")) = some false),
  decide (PySem.W.kitOne K (.ref (He.ga K "BadDay")) (.ref (He.ga K "BadCalendar")) = some false),
  decide (PySem.W.kitOne K (.ref (He.ga K "BadDay")) (.ref (He.ga K "BadDeed")) = some false),
  decide (PySem.W.kitOne K (.ref (He.ga K "BadDay")) (.type "ValueError") = some true),
  decide ((tf.map fun p => (He.cT K p).2).Nodup)]
def ex (K : PySem.W.Frag) : Bool := (exs K).all id
abbrev hk : PySem.W.Hook := He.hookS 5 fa fn [(fun K => He.ga K "LIMITS", limKeys)] tf ex
def ob (s : PySem.W.SharedT) : He.AlX := He.obsS 5 fa fn [(fun K => He.ga K "LIMITS", limKeys)] tf ex (HandSHeadRun.getT s)
theorem ob_eq (s : PySem.W.SharedT) : ob s = hk.obs s.abs := He.obsS_eq (HandSHeadRun.getT_eq s)
/-- what the head tells of the written part -/
structure Txt (w : World) (K : PySem.W.Frag) (mg : Str → Option Value) : Prop where
  ex : ∃ h, K.In h ∧ h.Ns mainGlobals mg ∧ He.SaysX fa fn [(fun K => He.ga K "LIMITS", limKeys)] tf ex w h K
section
variable {w : World} {K : PySem.W.Frag} {mg : Str → Option Value}
theorem Txt.df (T : Txt w K mg) (i j : Nat) {d : He.DefD} (hd : d.dfl = []) (hk : d.kwd = []) (h : fn[i]? = some d) (x : Str) (hx : d.at_ = (x, none)) (hg : fa[j]? = some (.glo x)) : ∃ f fd, FunD K d.name d.qual d.params d.body d.scope [] [] f fd ∧ mg x = some (.ref f) := by
  obtain ⟨h0, X, G, c⟩ := T.ex
  obtain ⟨fd, F⟩ := c.t.d.defs (List.mem_of_getElem? h)
  have e1 : d.dvs K = [] := by unfold He.DefD.dvs; rw [hd]; rfl
  have e2 : d.kws K = [] := by unfold He.DefD.kws; rw [hk]; rfl
  rw [e1, e2, hx] at F
  exact ⟨_, fd, F, He.glo_ok X G (c.t.d.facts (List.mem_of_getElem? hg))⟩
theorem Txt.dm (T : Txt w K mg) (i : Nat) {d : He.DefD} (hd : d.dfl = []) (hk : d.kwd = []) (h : fn[i]? = some d) : ∃ fd, FunD K d.name d.qual d.params d.body d.scope [] [] (He.fAd K d.at_) fd := by
  obtain ⟨h0, X, G, c⟩ := T.ex
  obtain ⟨fd, F⟩ := c.t.d.defs (List.mem_of_getElem? h)
  have e1 : d.dvs K = [] := by unfold He.DefD.dvs; rw [hd]; rfl
  have e2 : d.kws K = [] := by unfold He.DefD.kws; rw [hk]; rfl
  rw [e1, e2] at F
  exact ⟨fd, F⟩
theorem Txt.gl (T : Txt w K mg) (j : Nat) (x : Str) (hg : fa[j]? = some (.glo x)) : mg x = some (.ref (He.ga K x)) := by
  obtain ⟨h0, X, G, c⟩ := T.ex
  exact He.glo_ok X G (c.t.d.facts (List.mem_of_getElem? hg))
theorem Txt.fr (T : Txt w K mg) (j : Nat) (x : Str) (hg : fa[j]? = some (.free x)) : mg x = none := by
  obtain ⟨h0, X, G, c⟩ := T.ex
  exact He.free_ok X G (c.t.d.facts (List.mem_of_getElem? hg))
theorem Txt.fact (T : Txt w K mg) (j : Nat) {f : He.Fa} (hg : fa[j]? = some f) : f.ok K = true := by
  obtain ⟨h0, X, G, c⟩ := T.ex
  exact c.t.d.facts (List.mem_of_getElem? hg)
theorem Txt.x (T : Txt w K mg) (i : Nat) {b : Bool} (h : (exs K)[i]? = some b) : b = true := by
  obtain ⟨h0, X, G, c⟩ := T.ex
  exact List.all_eq_true.mp c.more b (List.mem_of_getElem? h)
theorem f_check (T : Txt w K mg) : ∃ f fd, FnP K "check" s_check f fd ∧ mg "check" = some (.ref f) := T.df 0 0 (d := d_check) rfl rfl rfl "check" rfl rfl
theorem f_check_day (T : Txt w K mg) : ∃ f fd, FnP K "check_day" s_check_day f fd ∧ mg "check_day" = some (.ref f) := T.df 1 1 (d := d_check_day) rfl rfl rfl "check_day" rfl rfl
theorem f_check_stretch (T : Txt w K mg) : ∃ f fd, FnP K "check_stretch" s_check_stretch f fd ∧ mg "check_stretch" = some (.ref f) := T.df 2 2 (d := d_check_stretch) rfl rfl rfl "check_stretch" rfl rfl
theorem f_first_served (T : Txt w K mg) : ∃ f fd, FnP K "first_served" s_first_served f fd ∧ mg "first_served" = some (.ref f) := T.df 3 3 (d := d_first_served) rfl rfl rfl "first_served" rfl rfl
theorem f__law_b_told (T : Txt w K mg) : ∃ f fd, FnP K "_law_b_told" s__law_b_told f fd ∧ mg "_law_b_told" = some (.ref f) := T.df 4 4 (d := d__law_b_told) rfl rfl rfl "_law_b_told" rfl rfl
theorem f__law_b_refused (T : Txt w K mg) : ∃ f fd, FnP K "_law_b_refused" s__law_b_refused f fd ∧ mg "_law_b_refused" = some (.ref f) := T.df 5 5 (d := d__law_b_refused) rfl rfl rfl "_law_b_refused" rfl rfl
theorem f__law_b_windows (T : Txt w K mg) : ∃ f fd, FnP K "_law_b_windows" s__law_b_windows f fd ∧ mg "_law_b_windows" = some (.ref f) := T.df 6 6 (d := d__law_b_windows) rfl rfl rfl "_law_b_windows" rfl rfl
theorem f__law_stock (T : Txt w K mg) : ∃ f fd, FnP K "_law_stock" s__law_stock f fd ∧ mg "_law_stock" = some (.ref f) := T.df 7 7 (d := d__law_stock) rfl rfl rfl "_law_stock" rfl rfl
theorem f__law_draw (T : Txt w K mg) : ∃ f fd, FnP K "_law_draw" s__law_draw f fd ∧ mg "_law_draw" = some (.ref f) := T.df 8 8 (d := d__law_draw) rfl rfl rfl "_law_draw" rfl rfl
theorem f__law_matches (T : Txt w K mg) : ∃ f fd, FnP K "_law_matches" s__law_matches f fd ∧ mg "_law_matches" = some (.ref f) := T.df 9 9 (d := d__law_matches) rfl rfl rfl "_law_matches" rfl rfl
theorem f__law_k04_inside (T : Txt w K mg) : ∃ f fd, FnP K "_law_k04_inside" s__law_k04_inside f fd ∧ mg "_law_k04_inside" = some (.ref f) := T.df 10 10 (d := d__law_k04_inside) rfl rfl rfl "_law_k04_inside" rfl rfl
theorem f__law_k04_wet (T : Txt w K mg) : ∃ f fd, FnP K "_law_k04_wet" s__law_k04_wet f fd ∧ mg "_law_k04_wet" = some (.ref f) := T.df 11 11 (d := d__law_k04_wet) rfl rfl rfl "_law_k04_wet" rfl rfl
theorem f__law_k04_served (T : Txt w K mg) : ∃ f fd, FnP K "_law_k04_served" s__law_k04_served f fd ∧ mg "_law_k04_served" = some (.ref f) := T.df 12 12 (d := d__law_k04_served) rfl rfl rfl "_law_k04_served" rfl rfl
theorem f__law_k04_counts (T : Txt w K mg) : ∃ f fd, FnP K "_law_k04_counts" s__law_k04_counts f fd ∧ mg "_law_k04_counts" = some (.ref f) := T.df 13 13 (d := d__law_k04_counts) rfl rfl rfl "_law_k04_counts" rfl rfl
theorem f__law_k04_serving (T : Txt w K mg) : ∃ f fd, FnP K "_law_k04_serving" s__law_k04_serving f fd ∧ mg "_law_k04_serving" = some (.ref f) := T.df 14 14 (d := d__law_k04_serving) rfl rfl rfl "_law_k04_serving" rfl rfl
theorem f__law_k04_changed (T : Txt w K mg) : ∃ f fd, FnP K "_law_k04_changed" s__law_k04_changed f fd ∧ mg "_law_k04_changed" = some (.ref f) := T.df 15 15 (d := d__law_k04_changed) rfl rfl rfl "_law_k04_changed" rfl rfl
theorem f__law_k04_days (T : Txt w K mg) : ∃ f fd, FnP K "_law_k04_days" s__law_k04_days f fd ∧ mg "_law_k04_days" = some (.ref f) := T.df 16 16 (d := d__law_k04_days) rfl rfl rfl "_law_k04_days" rfl rfl
theorem f__law_k04_wrong (T : Txt w K mg) : ∃ f fd, FnP K "_law_k04_wrong" s__law_k04_wrong f fd ∧ mg "_law_k04_wrong" = some (.ref f) := T.df 17 17 (d := d__law_k04_wrong) rfl rfl rfl "_law_k04_wrong" rfl rfl
theorem f__law_k04_refusals (T : Txt w K mg) : ∃ f fd, FnP K "_law_k04_refusals" s__law_k04_refusals f fd ∧ mg "_law_k04_refusals" = some (.ref f) := T.df 18 18 (d := d__law_k04_refusals) rfl rfl rfl "_law_k04_refusals" rfl rfl
theorem f_law (T : Txt w K mg) : ∃ f fd, FnP K "law" s_law f fd ∧ mg "law" = some (.ref f) := T.df 19 19 (d := d_law) rfl rfl rfl "law" rfl rfl
theorem fi_TooMany (T : Txt w K mg) : ∃ fd, FnM K "__init__" "TooMany.__init__" s_TooMany___init__ (He.ma K (He.ga K "TooMany") "__init__") fd := T.dm 20 (d := d_TooMany___init__) rfl rfl rfl
theorem fi_BadGarden (T : Txt w K mg) : ∃ fd, FnM K "__init__" "BadGarden.__init__" s_BadGarden___init__ (He.ma K (He.ga K "BadGarden") "__init__") fd := T.dm 21 (d := d_BadGarden___init__) rfl rfl rfl
theorem fi_BadDay (T : Txt w K mg) : ∃ fd, FnM K "__init__" "BadDay.__init__" s_BadDay___init__ (He.ma K (He.ga K "BadDay") "__init__") fd := T.dm 22 (d := d_BadDay___init__) rfl rfl rfl
theorem fm_Garden___init__ (T : Txt w K mg) : ∃ fd, FnM K "__init__" "Garden.__init__" s_Garden___init__ (He.ma K (He.ga K "Garden") "__init__") fd := T.dm 23 (d := d_Garden___init__) rfl rfl rfl
theorem fm_Garden_days (T : Txt w K mg) : ∃ fd, FnM K "days" "Garden.days" s_Garden_days (He.ma K (He.ga K "Garden") "days") fd := T.dm 24 (d := d_Garden_days) rfl rfl rfl
theorem fm_Garden_many (T : Txt w K mg) : ∃ fd, FnM K "many" "Garden.many" s_Garden_many (He.ma K (He.ga K "Garden") "many") fd := T.dm 25 (d := d_Garden_many) rfl rfl rfl
theorem fm_Garden_rows (T : Txt w K mg) : ∃ fd, FnM K "rows" "Garden.rows" s_Garden_rows (He.ma K (He.ga K "Garden") "rows") fd := T.dm 26 (d := d_Garden_rows) rfl rfl rfl
theorem fm_Garden_inside (T : Txt w K mg) : ∃ fd, FnM K "inside" "Garden.inside" s_Garden_inside (He.ma K (He.ga K "Garden") "inside") fd := T.dm 27 (d := d_Garden_inside) rfl rfl rfl
theorem fm_Garden_open_on (T : Txt w K mg) : ∃ fd, FnM K "open_on" "Garden.open_on" s_Garden_open_on (He.ma K (He.ga K "Garden") "open_on") fd := T.dm 28 (d := d_Garden_open_on) rfl rfl rfl
theorem fm_Garden_serve (T : Txt w K mg) : ∃ fd, FnM K "serve" "Garden.serve" s_Garden_serve (He.ma K (He.ga K "Garden") "serve") fd := T.dm 29 (d := d_Garden_serve) rfl rfl rfl
theorem fm_Garden_cut (T : Txt w K mg) : ∃ fd, FnM K "cut" "Garden.cut" s_Garden_cut (He.ma K (He.ga K "Garden") "cut") fd := T.dm 30 (d := d_Garden_cut) rfl rfl rfl
theorem fm_Garden_with_seeds (T : Txt w K mg) : ∃ fd, FnM K "with_seeds" "Garden.with_seeds" s_Garden_with_seeds (He.ma K (He.ga K "Garden") "with_seeds") fd := T.dm 31 (d := d_Garden_with_seeds) rfl rfl rfl
theorem g_SeenError (T : Txt w K mg) : mg "SeenError" = some (.ref (He.ga K "SeenError")) := T.gl 20 "SeenError" rfl
theorem g_TooMany (T : Txt w K mg) : mg "TooMany" = some (.ref (He.ga K "TooMany")) := T.gl 21 "TooMany" rfl
theorem g_BadSky (T : Txt w K mg) : mg "BadSky" = some (.ref (He.ga K "BadSky")) := T.gl 22 "BadSky" rfl
theorem g_BadWeather (T : Txt w K mg) : mg "BadWeather" = some (.ref (He.ga K "BadWeather")) := T.gl 23 "BadWeather" rfl
theorem g_BadReport (T : Txt w K mg) : mg "BadReport" = some (.ref (He.ga K "BadReport")) := T.gl 24 "BadReport" rfl
theorem g_BadGarden (T : Txt w K mg) : mg "BadGarden" = some (.ref (He.ga K "BadGarden")) := T.gl 25 "BadGarden" rfl
theorem g_BadSetting (T : Txt w K mg) : mg "BadSetting" = some (.ref (He.ga K "BadSetting")) := T.gl 26 "BadSetting" rfl
theorem g_BadHouse (T : Txt w K mg) : mg "BadHouse" = some (.ref (He.ga K "BadHouse")) := T.gl 27 "BadHouse" rfl
theorem g_BadDay (T : Txt w K mg) : mg "BadDay" = some (.ref (He.ga K "BadDay")) := T.gl 28 "BadDay" rfl
theorem g_BadText (T : Txt w K mg) : mg "BadText" = some (.ref (He.ga K "BadText")) := T.gl 29 "BadText" rfl
theorem g_NotKept (T : Txt w K mg) : mg "NotKept" = some (.ref (He.ga K "NotKept")) := T.gl 30 "NotKept" rfl
theorem g_Unsafe (T : Txt w K mg) : mg "Unsafe" = some (.ref (He.ga K "Unsafe")) := T.gl 31 "Unsafe" rfl
theorem g_BadCalls (T : Txt w K mg) : mg "BadCalls" = some (.ref (He.ga K "BadCalls")) := T.gl 32 "BadCalls" rfl
theorem g_BadOffers (T : Txt w K mg) : mg "BadOffers" = some (.ref (He.ga K "BadOffers")) := T.gl 33 "BadOffers" rfl
theorem g_BadTable (T : Txt w K mg) : mg "BadTable" = some (.ref (He.ga K "BadTable")) := T.gl 34 "BadTable" rfl
theorem g_BadRow (T : Txt w K mg) : mg "BadRow" = some (.ref (He.ga K "BadRow")) := T.gl 35 "BadRow" rfl
theorem g_BadCalendar (T : Txt w K mg) : mg "BadCalendar" = some (.ref (He.ga K "BadCalendar")) := T.gl 36 "BadCalendar" rfl
theorem g_BadDeed (T : Txt w K mg) : mg "BadDeed" = some (.ref (He.ga K "BadDeed")) := T.gl 37 "BadDeed" rfl
theorem g_Garden (T : Txt w K mg) : mg "Garden" = some (.ref (He.ga K "Garden")) := T.gl 38 "Garden" rfl
theorem g_LIMITS (T : Txt w K mg) : mg "LIMITS" = some (.ref (He.ga K "LIMITS")) := T.gl 39 "LIMITS" rfl
theorem n_len (T : Txt w K mg) : mg "len" = none := T.fr 40 "len" rfl
theorem n_max (T : Txt w K mg) : mg "max" = none := T.fr 41 "max" rfl
theorem n_min (T : Txt w K mg) : mg "min" = none := T.fr 42 "min" rfl
theorem n_list (T : Txt w K mg) : mg "list" = none := T.fr 43 "list" rfl
theorem n_int (T : Txt w K mg) : mg "int" = none := T.fr 44 "int" rfl
theorem n_abs (T : Txt w K mg) : mg "abs" = none := T.fr 45 "abs" rfl
theorem n_sum (T : Txt w K mg) : mg "sum" = none := T.fr 46 "sum" rfl
theorem n_isinstance (T : Txt w K mg) : mg "isinstance" = none := T.fr 47 "isinstance" rfl
theorem n_range (T : Txt w K mg) : mg "range" = none := T.fr 48 "range" rfl
theorem n_sorted (T : Txt w K mg) : mg "sorted" = none := T.fr 49 "sorted" rfl
theorem n_bool (T : Txt w K mg) : mg "bool" = none := T.fr 50 "bool" rfl
theorem n_str (T : Txt w K mg) : mg "str" = none := T.fr 51 "str" rfl
theorem n_dict (T : Txt w K mg) : mg "dict" = none := T.fr 52 "dict" rfl
theorem n_tuple (T : Txt w K mg) : mg "tuple" = none := T.fr 53 "tuple" rfl
theorem n_ValueError (T : Txt w K mg) : mg "ValueError" = none := T.fr 54 "ValueError" rfl
theorem cl_Garden (T : Txt w K mg) : Cls K (He.ga K "Garden") := He.cls_ok (T.fact 55 rfl)
theorem mk_Garden (T : Txt w K mg) : Mk K (He.ga K "Garden") (He.ma K (He.ga K "Garden") "__init__") := He.mkr_ok (T.fact 56 rfl)
theorem na_Garden_days_number (T : Txt w K mg) : NoAttr K (He.ga K "Garden") "days_number" := He.noat_ok (T.fact 57 rfl)
theorem na_Garden_seed_list (T : Txt w K mg) : NoAttr K (He.ga K "Garden") "seed_list" := He.noat_ok (T.fact 58 rfl)
theorem me_Garden_days (T : Txt w K mg) : Meth K (He.ga K "Garden") "days" (He.ma K (He.ga K "Garden") "days") := He.meth_ok (T.fact 59 rfl)
theorem me_Garden_many (T : Txt w K mg) : Meth K (He.ga K "Garden") "many" (He.ma K (He.ga K "Garden") "many") := He.meth_ok (T.fact 60 rfl)
theorem me_Garden_rows (T : Txt w K mg) : Meth K (He.ga K "Garden") "rows" (He.ma K (He.ga K "Garden") "rows") := He.meth_ok (T.fact 61 rfl)
theorem me_Garden_inside (T : Txt w K mg) : Meth K (He.ga K "Garden") "inside" (He.ma K (He.ga K "Garden") "inside") := He.meth_ok (T.fact 62 rfl)
theorem me_Garden_open_on (T : Txt w K mg) : Meth K (He.ga K "Garden") "open_on" (He.ma K (He.ga K "Garden") "open_on") := He.meth_ok (T.fact 63 rfl)
theorem me_Garden_serve (T : Txt w K mg) : Meth K (He.ga K "Garden") "serve" (He.ma K (He.ga K "Garden") "serve") := He.meth_ok (T.fact 64 rfl)
theorem me_Garden_cut (T : Txt w K mg) : Meth K (He.ga K "Garden") "cut" (He.ma K (He.ga K "Garden") "cut") := He.meth_ok (T.fact 65 rfl)
theorem me_Garden_with_seeds (T : Txt w K mg) : Meth K (He.ga K "Garden") "with_seeds" (He.ma K (He.ga K "Garden") "with_seeds") := He.meth_ok (T.fact 66 rfl)
theorem lim (T : Txt w K mg) {z : Str} {n : Int} (hz : (z, He.Dv.int n) ∈ limits) : KDct K w (He.ga K "LIMITS") z (.int n) := by
  have hv := T.x 0 rfl
  obtain ⟨h0, X, G, c⟩ := T.ex
  obtain ⟨es, m, hl, hk, hs⟩ := c.t.tab 0 rfl
  obtain ⟨u, hu, hr⟩ := He.valsB_ok hv hz
  exact ⟨es, m, u, hl, hk, hu, hr⟩
theorem se (T : Txt w K mg) : SeTxt K (He.ga K "SeenError") := seB_ok (T.x 1 rfl)
theorem xt_TooMany (T : Txt w K mg) : ExT K (He.ga K "TooMany") (He.ma K (He.ga K "TooMany") "__init__") := exTB_ok (T.x 2 rfl)
theorem xn_TooMany_what (T : Txt w K mg) : PySem.W.findIn K (.ref (He.ga K "TooMany")) "what" = some none := of_decide_eq_true (T.x 3 rfl)
theorem xs_TooMany (T : Txt w K mg) : PySem.W.exmOne K (.ref (He.ga K "TooMany")) (.ref (He.ga K "SeenError")) = some true := of_decide_eq_true (T.x 4 rfl)
theorem xk_TooMany_TooMany (T : Txt w K mg) : PySem.W.kitOne K (.ref (He.ga K "TooMany")) (.ref (He.ga K "TooMany")) = some true := of_decide_eq_true (T.x 5 rfl)
theorem xk_TooMany_BadSky (T : Txt w K mg) : PySem.W.kitOne K (.ref (He.ga K "TooMany")) (.ref (He.ga K "BadSky")) = some false := of_decide_eq_true (T.x 6 rfl)
theorem xk_TooMany_BadWeather (T : Txt w K mg) : PySem.W.kitOne K (.ref (He.ga K "TooMany")) (.ref (He.ga K "BadWeather")) = some false := of_decide_eq_true (T.x 7 rfl)
theorem xk_TooMany_BadReport (T : Txt w K mg) : PySem.W.kitOne K (.ref (He.ga K "TooMany")) (.ref (He.ga K "BadReport")) = some false := of_decide_eq_true (T.x 8 rfl)
theorem xk_TooMany_BadGarden (T : Txt w K mg) : PySem.W.kitOne K (.ref (He.ga K "TooMany")) (.ref (He.ga K "BadGarden")) = some false := of_decide_eq_true (T.x 9 rfl)
theorem xk_TooMany_BadSetting (T : Txt w K mg) : PySem.W.kitOne K (.ref (He.ga K "TooMany")) (.ref (He.ga K "BadSetting")) = some false := of_decide_eq_true (T.x 10 rfl)
theorem xk_TooMany_BadHouse (T : Txt w K mg) : PySem.W.kitOne K (.ref (He.ga K "TooMany")) (.ref (He.ga K "BadHouse")) = some false := of_decide_eq_true (T.x 11 rfl)
theorem xk_TooMany_BadDay (T : Txt w K mg) : PySem.W.kitOne K (.ref (He.ga K "TooMany")) (.ref (He.ga K "BadDay")) = some false := of_decide_eq_true (T.x 12 rfl)
theorem xk_TooMany_BadText (T : Txt w K mg) : PySem.W.kitOne K (.ref (He.ga K "TooMany")) (.ref (He.ga K "BadText")) = some false := of_decide_eq_true (T.x 13 rfl)
theorem xk_TooMany_NotKept (T : Txt w K mg) : PySem.W.kitOne K (.ref (He.ga K "TooMany")) (.ref (He.ga K "NotKept")) = some false := of_decide_eq_true (T.x 14 rfl)
theorem xk_TooMany_Unsafe (T : Txt w K mg) : PySem.W.kitOne K (.ref (He.ga K "TooMany")) (.ref (He.ga K "Unsafe")) = some false := of_decide_eq_true (T.x 15 rfl)
theorem xk_TooMany_BadCalls (T : Txt w K mg) : PySem.W.kitOne K (.ref (He.ga K "TooMany")) (.ref (He.ga K "BadCalls")) = some false := of_decide_eq_true (T.x 16 rfl)
theorem xk_TooMany_BadOffers (T : Txt w K mg) : PySem.W.kitOne K (.ref (He.ga K "TooMany")) (.ref (He.ga K "BadOffers")) = some false := of_decide_eq_true (T.x 17 rfl)
theorem xk_TooMany_BadTable (T : Txt w K mg) : PySem.W.kitOne K (.ref (He.ga K "TooMany")) (.ref (He.ga K "BadTable")) = some false := of_decide_eq_true (T.x 18 rfl)
theorem xk_TooMany_BadRow (T : Txt w K mg) : PySem.W.kitOne K (.ref (He.ga K "TooMany")) (.ref (He.ga K "BadRow")) = some false := of_decide_eq_true (T.x 19 rfl)
theorem xk_TooMany_BadCalendar (T : Txt w K mg) : PySem.W.kitOne K (.ref (He.ga K "TooMany")) (.ref (He.ga K "BadCalendar")) = some false := of_decide_eq_true (T.x 20 rfl)
theorem xk_TooMany_BadDeed (T : Txt w K mg) : PySem.W.kitOne K (.ref (He.ga K "TooMany")) (.ref (He.ga K "BadDeed")) = some false := of_decide_eq_true (T.x 21 rfl)
theorem xv_TooMany (T : Txt w K mg) : PySem.W.kitOne K (.ref (He.ga K "TooMany")) (.type "ValueError") = some true := of_decide_eq_true (T.x 22 rfl)
theorem xt_BadGarden (T : Txt w K mg) : ExT K (He.ga K "BadGarden") (He.ma K (He.ga K "BadGarden") "__init__") := exTB_ok (T.x 23 rfl)
theorem xn_BadGarden_row (T : Txt w K mg) : PySem.W.findIn K (.ref (He.ga K "BadGarden")) "row" = some none := of_decide_eq_true (T.x 24 rfl)
theorem xs_BadGarden (T : Txt w K mg) : PySem.W.exmOne K (.ref (He.ga K "BadGarden")) (.ref (He.ga K "SeenError")) = some true := of_decide_eq_true (T.x 25 rfl)
theorem xk_BadGarden_TooMany (T : Txt w K mg) : PySem.W.kitOne K (.ref (He.ga K "BadGarden")) (.ref (He.ga K "TooMany")) = some false := of_decide_eq_true (T.x 26 rfl)
theorem xk_BadGarden_BadSky (T : Txt w K mg) : PySem.W.kitOne K (.ref (He.ga K "BadGarden")) (.ref (He.ga K "BadSky")) = some false := of_decide_eq_true (T.x 27 rfl)
theorem xk_BadGarden_BadWeather (T : Txt w K mg) : PySem.W.kitOne K (.ref (He.ga K "BadGarden")) (.ref (He.ga K "BadWeather")) = some false := of_decide_eq_true (T.x 28 rfl)
theorem xk_BadGarden_BadReport (T : Txt w K mg) : PySem.W.kitOne K (.ref (He.ga K "BadGarden")) (.ref (He.ga K "BadReport")) = some false := of_decide_eq_true (T.x 29 rfl)
theorem xk_BadGarden_BadGarden (T : Txt w K mg) : PySem.W.kitOne K (.ref (He.ga K "BadGarden")) (.ref (He.ga K "BadGarden")) = some true := of_decide_eq_true (T.x 30 rfl)
theorem xk_BadGarden_BadSetting (T : Txt w K mg) : PySem.W.kitOne K (.ref (He.ga K "BadGarden")) (.ref (He.ga K "BadSetting")) = some false := of_decide_eq_true (T.x 31 rfl)
theorem xk_BadGarden_BadHouse (T : Txt w K mg) : PySem.W.kitOne K (.ref (He.ga K "BadGarden")) (.ref (He.ga K "BadHouse")) = some false := of_decide_eq_true (T.x 32 rfl)
theorem xk_BadGarden_BadDay (T : Txt w K mg) : PySem.W.kitOne K (.ref (He.ga K "BadGarden")) (.ref (He.ga K "BadDay")) = some false := of_decide_eq_true (T.x 33 rfl)
theorem xk_BadGarden_BadText (T : Txt w K mg) : PySem.W.kitOne K (.ref (He.ga K "BadGarden")) (.ref (He.ga K "BadText")) = some false := of_decide_eq_true (T.x 34 rfl)
theorem xk_BadGarden_NotKept (T : Txt w K mg) : PySem.W.kitOne K (.ref (He.ga K "BadGarden")) (.ref (He.ga K "NotKept")) = some false := of_decide_eq_true (T.x 35 rfl)
theorem xk_BadGarden_Unsafe (T : Txt w K mg) : PySem.W.kitOne K (.ref (He.ga K "BadGarden")) (.ref (He.ga K "Unsafe")) = some false := of_decide_eq_true (T.x 36 rfl)
theorem xk_BadGarden_BadCalls (T : Txt w K mg) : PySem.W.kitOne K (.ref (He.ga K "BadGarden")) (.ref (He.ga K "BadCalls")) = some false := of_decide_eq_true (T.x 37 rfl)
theorem xk_BadGarden_BadOffers (T : Txt w K mg) : PySem.W.kitOne K (.ref (He.ga K "BadGarden")) (.ref (He.ga K "BadOffers")) = some false := of_decide_eq_true (T.x 38 rfl)
theorem xk_BadGarden_BadTable (T : Txt w K mg) : PySem.W.kitOne K (.ref (He.ga K "BadGarden")) (.ref (He.ga K "BadTable")) = some false := of_decide_eq_true (T.x 39 rfl)
theorem xk_BadGarden_BadRow (T : Txt w K mg) : PySem.W.kitOne K (.ref (He.ga K "BadGarden")) (.ref (He.ga K "BadRow")) = some false := of_decide_eq_true (T.x 40 rfl)
theorem xk_BadGarden_BadCalendar (T : Txt w K mg) : PySem.W.kitOne K (.ref (He.ga K "BadGarden")) (.ref (He.ga K "BadCalendar")) = some false := of_decide_eq_true (T.x 41 rfl)
theorem xk_BadGarden_BadDeed (T : Txt w K mg) : PySem.W.kitOne K (.ref (He.ga K "BadGarden")) (.ref (He.ga K "BadDeed")) = some false := of_decide_eq_true (T.x 42 rfl)
theorem xv_BadGarden (T : Txt w K mg) : PySem.W.kitOne K (.ref (He.ga K "BadGarden")) (.type "ValueError") = some true := of_decide_eq_true (T.x 43 rfl)
theorem xt_BadDay (T : Txt w K mg) : ExT K (He.ga K "BadDay") (He.ma K (He.ga K "BadDay") "__init__") := exTB_ok (T.x 44 rfl)
theorem xn_BadDay_day (T : Txt w K mg) : PySem.W.findIn K (.ref (He.ga K "BadDay")) "day" = some none := of_decide_eq_true (T.x 45 rfl)
theorem xs_BadDay (T : Txt w K mg) : PySem.W.exmOne K (.ref (He.ga K "BadDay")) (.ref (He.ga K "SeenError")) = some true := of_decide_eq_true (T.x 46 rfl)
theorem xk_BadDay_TooMany (T : Txt w K mg) : PySem.W.kitOne K (.ref (He.ga K "BadDay")) (.ref (He.ga K "TooMany")) = some false := of_decide_eq_true (T.x 47 rfl)
theorem xk_BadDay_BadSky (T : Txt w K mg) : PySem.W.kitOne K (.ref (He.ga K "BadDay")) (.ref (He.ga K "BadSky")) = some false := of_decide_eq_true (T.x 48 rfl)
theorem xk_BadDay_BadWeather (T : Txt w K mg) : PySem.W.kitOne K (.ref (He.ga K "BadDay")) (.ref (He.ga K "BadWeather")) = some false := of_decide_eq_true (T.x 49 rfl)
theorem xk_BadDay_BadReport (T : Txt w K mg) : PySem.W.kitOne K (.ref (He.ga K "BadDay")) (.ref (He.ga K "BadReport")) = some false := of_decide_eq_true (T.x 50 rfl)
theorem xk_BadDay_BadGarden (T : Txt w K mg) : PySem.W.kitOne K (.ref (He.ga K "BadDay")) (.ref (He.ga K "BadGarden")) = some false := of_decide_eq_true (T.x 51 rfl)
theorem xk_BadDay_BadSetting (T : Txt w K mg) : PySem.W.kitOne K (.ref (He.ga K "BadDay")) (.ref (He.ga K "BadSetting")) = some false := of_decide_eq_true (T.x 52 rfl)
theorem xk_BadDay_BadHouse (T : Txt w K mg) : PySem.W.kitOne K (.ref (He.ga K "BadDay")) (.ref (He.ga K "BadHouse")) = some false := of_decide_eq_true (T.x 53 rfl)
theorem xk_BadDay_BadDay (T : Txt w K mg) : PySem.W.kitOne K (.ref (He.ga K "BadDay")) (.ref (He.ga K "BadDay")) = some true := of_decide_eq_true (T.x 54 rfl)
theorem xk_BadDay_BadText (T : Txt w K mg) : PySem.W.kitOne K (.ref (He.ga K "BadDay")) (.ref (He.ga K "BadText")) = some false := of_decide_eq_true (T.x 55 rfl)
theorem xk_BadDay_NotKept (T : Txt w K mg) : PySem.W.kitOne K (.ref (He.ga K "BadDay")) (.ref (He.ga K "NotKept")) = some false := of_decide_eq_true (T.x 56 rfl)
theorem xk_BadDay_Unsafe (T : Txt w K mg) : PySem.W.kitOne K (.ref (He.ga K "BadDay")) (.ref (He.ga K "Unsafe")) = some false := of_decide_eq_true (T.x 57 rfl)
theorem xk_BadDay_BadCalls (T : Txt w K mg) : PySem.W.kitOne K (.ref (He.ga K "BadDay")) (.ref (He.ga K "BadCalls")) = some false := of_decide_eq_true (T.x 58 rfl)
theorem xk_BadDay_BadOffers (T : Txt w K mg) : PySem.W.kitOne K (.ref (He.ga K "BadDay")) (.ref (He.ga K "BadOffers")) = some false := of_decide_eq_true (T.x 59 rfl)
theorem xk_BadDay_BadTable (T : Txt w K mg) : PySem.W.kitOne K (.ref (He.ga K "BadDay")) (.ref (He.ga K "BadTable")) = some false := of_decide_eq_true (T.x 60 rfl)
theorem xk_BadDay_BadRow (T : Txt w K mg) : PySem.W.kitOne K (.ref (He.ga K "BadDay")) (.ref (He.ga K "BadRow")) = some false := of_decide_eq_true (T.x 61 rfl)
theorem xk_BadDay_BadCalendar (T : Txt w K mg) : PySem.W.kitOne K (.ref (He.ga K "BadDay")) (.ref (He.ga K "BadCalendar")) = some false := of_decide_eq_true (T.x 62 rfl)
theorem xk_BadDay_BadDeed (T : Txt w K mg) : PySem.W.kitOne K (.ref (He.ga K "BadDay")) (.ref (He.ga K "BadDeed")) = some false := of_decide_eq_true (T.x 63 rfl)
theorem xv_BadDay (T : Txt w K mg) : PySem.W.kitOne K (.ref (He.ga K "BadDay")) (.type "ValueError") = some true := of_decide_eq_true (T.x 64 rfl)
theorem tabs_nodup (T : Txt w K mg) : (tf.map fun p => (He.cT K p).2).Nodup := of_decide_eq_true (T.x 65 rfl)
theorem Txt.dl (T : Txt w K mg) (i j : Nat) {d : He.DefD} (hd : d.dfl = []) (hk : d.kwd = []) (h : fn[i]? = some d) (x : Str) (hx : d.at_ = (x, none)) (hg : fa[j]? = some (.glo x)) : ∃ f fd, FunD K d.name d.qual d.params d.body d.scope [] [] f fd ∧ mg x = some (.ref f) ∧ fd.code = .ref (He.codeOf K (x, none)) := by
  obtain ⟨h0, X, G, c⟩ := T.ex
  obtain ⟨fd, F⟩ := c.t.d.defs (List.mem_of_getElem? h)
  have e1 : d.dvs K = [] := by unfold He.DefD.dvs; rw [hd]; rfl
  have e2 : d.kws K = [] := by unfold He.DefD.kws; rw [hk]; rfl
  rw [e1, e2, hx] at F
  refine ⟨_, fd, F, He.glo_ok X G (c.t.d.facts (List.mem_of_getElem? hg)), ?_⟩
  obtain ⟨oc, od, dV, kV, doc, pm, an, cdv, ct, osl, e, lk, hcd, _, _⟩ := F.ex
  have e3 : fd.code = cdv := by rw [e]
  rw [e3]
  cases cdv with
  | ref a => rw [He.codeOf_eq lk e3]
  | _ => cases hcd
theorem fl__law_k04_days (T : Txt w K mg) : ∃ f fd, FnP K "_law_k04_days" s__law_k04_days f fd ∧ mg "_law_k04_days" = some (.ref f) ∧ fd.code = .ref (He.codeOf K ("_law_k04_days", none)) := T.dl 16 16 (d := d__law_k04_days) rfl rfl rfl "_law_k04_days" rfl rfl
theorem fl__law_k04_refusals (T : Txt w K mg) : ∃ f fd, FnP K "_law_k04_refusals" s__law_k04_refusals f fd ∧ mg "_law_k04_refusals" = some (.ref f) ∧ fd.code = .ref (He.codeOf K ("_law_k04_refusals", none)) := T.dl 18 18 (d := d__law_k04_refusals) rfl rfl rfl "_law_k04_refusals" rfl rfl
end
end K04
end
section
set_option maxRecDepth 100000
set_option maxHeartbeats 0
namespace K04
open PySem PySem.W PySem.Calls PySem.Spec PyProof.Rows L2
abbrev R : PySem.W.OpenRow := PySem.W.OpenLaw.row PySem.Challenge.rw_seenenough_k04_windows_counted_and_serve
def loose1 : List PySem.Str := ["_wall", "SeenError", "TooMany", "BadSky", "BadWeather", "BadReport", "BadGarden", "BadSetting", "BadCalls", "BadOffers", "BadTable", "BadRow", "BadHouse", "BadCalendar", "NotKept", "Unsafe", "BadDay", "BadDeed", "BadText", "LIMITS"]
def loose2 : List PySem.Str := ["check", "check_day", "check_stretch", "first_served", "Garden", "_law_b_told", "_law_b_refused", "_law_b_windows", "_law_stock", "_law_draw", "_law_matches", "_law_k04_inside", "_law_k04_wet", "_law_k04_served", "_law_k04_counts", "_law_k04_serving", "_law_k04_changed", "_law_k04_days", "_law_k04_wrong", "_law_k04_refusals"]
theorem runF (w : World) : HandSHeadRun.RunEq R (PySem.W.view R.prog [46]) hk ob 20000 (loose1 ++ loose2) (w.withFollow "special-get-raises" false) := by
  intro os
  kernel_rfl
theorem runT (w : World) : HandSHeadRun.RunEq R (PySem.W.view R.prog [46]) hk ob 20000 (loose1 ++ loose2) (w.withFollow "special-get-raises" true) := by
  intro os
  kernel_rfl
theorem run (w : World) : HandSHeadRun.RunEq R (PySem.W.view R.prog [46]) hk ob 20000 (loose1 ++ loose2) w :=
  byRow2 "special-get-raises" (P := fun w => HandSHeadRun.RunEq R (PySem.W.view R.prog [46]) hk ob 20000 (loose1 ++ loose2) w) runF runT w
end K04
end
section
set_option maxRecDepth 100000
set_option maxHeartbeats 4000000
namespace L2
open PySem PySem.Spec PyProof.Rows
/-! ### heaps that grow -/
theorem same_new {H : Hp} {p : Addr} {o : HO} (h : H p = none) : Same H (upd H p o) := fun b u e => by
  rw [upd_ne (ne_of_none e h)]
  exact e
theorem same_mut {H H' : Hp} {p : Addr} {o : HO} (e : Same H H') (h : H p = none) : Same H (upd H' p o) := fun b u hb => by
  rw [upd_ne (ne_of_none hb h)]
  exact e b u hb
theorem Same.tup {K : PySem.W.Frag} {H H' : Hp} {a : Addr} {xs : List V} (e : Same H H') (h : SqT K H a xs) : SqT K H' a xs := by
  rcases h with (h | ⟨o, h⟩) | h
  · exact .inl (.inl (e _ _ h))
  · exact .inl (.inr ⟨o, e _ _ h⟩)
  · exact .inr h
/-- a new object: the heap behind it as a letter -/
theorem newly {H : Hp} {o : HO} {Q : Addr → Hp → Prop} (h : ∀ p H', H p = none → Same H H' → H' p = some o → (∀ b, b ≠ p → H' b = H b) → Q p H') : ∀ p, H p = none → Q p (upd H p o) :=
  fun p hp => h p _ hp (same_new hp) upd_same fun b hb => upd_ne hb
/-- all but what stands at a is as it was -/
def But (a : Addr) (H H' : Hp) : Prop := ∀ b o, H b = some o → b ≠ a → H' b = some o
theorem But.refl (a : Addr) (H : Hp) : But a H H := fun _ _ h _ => h
theorem But.of {a : Addr} {H H' : Hp} (e : Same H H') : But a H H' := fun b o h _ => e b o h
theorem But.trans {a : Addr} {H H1 H2 : Hp} (e : But a H H1) (f : But a H1 H2) : But a H H2 := fun b o h n => f b o (e b o h n) n
theorem But.upd {a : Addr} {H H' : Hp} {o : HO} (e : But a H H') : But a H (upd H' a o) := fun b u h n => by
  rw [upd_ne n]
  exact e b u h n
theorem But.mut {a p : Addr} {H H' : Hp} {o : HO} (e : But a H H') (h : H p = none) : But a H (L2.upd H' p o) := fun b u hb n => by
  rw [upd_ne (ne_of_none hb h)]
  exact e b u hb n
theorem But.free {a : Addr} {H H' : Hp} (e : But a H H') (ha : H' a ≠ none) {l : Addr} (h : H' l = none) : H l = none := by
  cases q : H l with
  | none => rfl
  | some o =>
    by_cases hl : l = a
    · rw [hl] at h
      exact absurd h ha
    · rw [e l o q hl] at h
      cases h
theorem lst_ne {H : Hp} {a : Addr} {o : HO} {K : PySem.W.Frag} (x : H a = some o) : H a ≠ none := by rw [x]; exact fun z => by cases z
/-! ### an own exception raised -/
def spInit (C : Addr) (f : Str) : Sp := fun vs H Q _ => ∃ (a : Addr) (v : V), vs = [.ref a, v] ∧ H a = some (exo a C none) ∧
  ∀ dx, H dx = none → dx ≠ a → Q .non (upd (upd H dx (exd dx [(f, v)])) a (exo a C (some dx)))
theorem mko {C : Addr} {f : Str} {v : V} {H : Hp} {Q : XK} (h : ∀ d, H d = none → Q (.ref C) (some d) (upd H d (.xd [(f, v)]))) : ([v] : List V).length ≤ 1000 ∧ ∀ a, H a = none → spInit C f (.ref a :: ([v] ++ [])) (upd H a (exo a C none))
    (fun u H2 => u = .non ∧ ∃ (d : Addr) (fs : List (Str × V)), H2 a = some (exo a C (some d)) ∧ H2 d = some (exd d fs) ∧ H d = none ∧ Q (.ref C) (some d) (upd (del H2 a) d (.xd fs))) (fun _ _ _ => False) := by
  refine ⟨by show 1 ≤ 1000; decide, fun a ha => ⟨a, v, rfl, upd_same, fun dx hd hne => ⟨rfl, dx, [(f, v)], upd_same, by rw [upd_ne hne, upd_same], ?_, ?_⟩⟩⟩
  · rw [upd_ne hne] at hd
    exact hd
  · have hd' : H dx = none := by rw [upd_ne hne] at hd; exact hd
    have e : upd (del (upd (upd (upd H a (exo a C none)) dx (exd dx [(f, v)])) a (exo a C (some dx))) a) dx (.xd [(f, v)]) = upd H dx (.xd [(f, v)]) := by
      funext b
      by_cases hb : b = dx
      · rw [hb, upd_same, upd_same]
      · rw [upd_ne hb, upd_ne hb]
        by_cases hba : b = a
        · rw [hba, del_same, ha]
        · rw [del_ne hba, upd_ne hba, upd_ne hb, upd_ne hba]
    rw [e]
    exact h dx hd'
/-- E is told of an error of the class at C whose field f is v -/
def Rz (E : XK) (H : Hp) (C : Addr) (f : Str) (v : V) : Prop := ∀ d H', Same H H' → H' d = some (.xd [(f, v)]) → E (.ref C) (some d) H'
theorem Rz.at {E : XK} {H H1 : Hp} {C : Addr} {f : Str} {v : V} (r : Rz E H C f v) (e : Same H H1) : ∀ d, H1 d = none → E (.ref C) (some d) (upd H1 d (.xd [(f, v)])) := fun d hd => r d _ (e.trans (same_new hd)) upd_same
/-! ### statement by statement -/
theorem nxE {t : St → Hp → Prop} {r : VK} {b c : St → Hp → Prop} {σ : St} {H : Hp} (h : t σ H) : Ends.nx ⟨t, r, b, c⟩ σ H := h
/-- x = e, then the rest -/
theorem st_let {te : TE} {i : Nat} {t2 : TS} {D : Ends} {σ : St} {H : Hp} (PV : V → Hp → Prop) (h : ∀ R : VK, (∀ v H', PV v H' → R v H') → te σ H R) (q : ∀ v H', PV v H' → t2 D (σ.set i (some v)) H') : tSeq (tAsg te (gName i)) t2 D σ H := h _ q
/-! ### numbers -/
theorem ints_get {ns : List Int} {i : Nat} {x : V} (h : (ns.map V.int)[i]? = some x) : ∃ z, ns[i]? = some z ∧ x = V.int z := by
  rw [List.getElem?_map] at h
  cases e : ns[i]? with
  | none => rw [e] at h; cases h
  | some z => rw [e] at h; exact ⟨z, rfl, (Option.some.inj h).symm⟩
theorem ints_at {ns : List Int} {i : Nat} {z : Int} (h : ns[i]? = some z) : (ns.map V.int)[i]? = some (.int z) := by rw [List.getElem?_map, h]; rfl
theorem ints_len (ns : List Int) : (ns.map V.int).length = ns.length := List.length_map _
/-- an item by an int -/
theorem atI_int {α : Type} {xs : List α} {z : Int} {v : α} (h0 : 0 ≤ z) (h : xs[z.toNat]? = some v) : atI xs z = some v := by
  have e : z = ((z.toNat : Nat) : Int) := by omega
  rw [e]
  exact atI_nat h
theorem line_of {n : Nat} (h : n ≤ 100000) : n ≤ sizeLine := Nat.le_trans h (by decide)
theorem line_lt {n : Nat} (h : n < 100000) : n < sizeLine := Nat.lt_of_lt_of_le h (by decide)
end L2
end
section
set_option maxRecDepth 100000
set_option maxHeartbeats 4000000
namespace L2
open PySem PySem.Spec PyProof.Rows
/-! ### comprehensions by what is made so far -/
section
variable {K : PySem.W.Frag} {a D : Addr} {xs : List V} {g : TG} {tt : TT} {te : TE} {vs : List Nat} {σ : St} {H1 : Hp} {Q : Hp → Prop}
theorem lc_acc (hD : H1 D = none) (hS : SqL K H1 a xs) (hz : xs.length < 100000) (Acc : Nat → List V → Hp → Prop) (h0 : ∀ H', Same H1 H' → Acc 0 [] H')
    (hs : ∀ i x acc H' (N : V → Hp → Prop) (N0 : Hp → Prop), xs[i]? = some x → Same H1 H' → H' D = some (.lst acc) → Acc i acc H' →
      (∀ y H4, Same H' H4 → (∀ H5, But D H4 H5 → H5 D = some (.lst (acc ++ [y])) → Acc (i + 1) (acc ++ [y]) H5) → N y H4) → (∀ H3, Same H' H3 → Acc (i + 1) acc H3 → N0 H3) →
      g x (wipe σ vs) H' fun σ2 H2 => wipe σ2 vs = wipe σ vs ∧ tt σ2 H2 fun b H3 => if b = true then te σ2 H3 N else N0 H3)
    (hd : ∀ acc H', Same H1 H' → H' D = some (.lst acc) → acc.length ≤ xs.length → Acc xs.length acc H' → Q H') :
    ∃ W : Nat → Nat → Hp → Prop, (∃ m, W 0 m (upd H1 D (.lst []))) ∧ ∀ i m H, W i m H →
      ((Itl K a).stop i H ∧ Q H) ∨ ((Itl K a).go i H ∧ ∃ Nx : Hp → Prop, (∀ H', Nx H' → ∃ m', m' < m ∧ W (i + 1) m' H') ∧ ∀ x H', (Itl K a).yld i H x H' → g x (wipe σ vs) H' fun σ2 H2 => wipe σ2 vs = wipe σ vs ∧ tt σ2 H2 fun b H3 =>
        if b = true then te σ2 H3 fun y H4 => ∃ acc, H4 D = some (.lst acc) ∧ acc.length < sizeLine ∧ Nx (upd H4 D (.lst (acc ++ [y]))) else Nx H3) := by
  refine lc_list (K := K) (a := a) (xs := xs) (fun i H' => Same H1 H' ∧ ∃ acc, H' D = some (.lst acc) ∧ acc.length ≤ i ∧ Acc i acc H') ⟨same_new hD, [], upd_same, Nat.le_refl _, h0 _ (same_new hD)⟩ (fun i H' _ h => h.1.seq hS) ?_ ?_
  · rintro i x H' hx ⟨e, acc, hacc, hl, ha⟩
    have hi : i < xs.length := (List.getElem?_eq_some_iff.mp hx).1
    refine hs i x acc H' _ _ hx e hacc ha (fun y H4 s4 a4 => ?_) (fun H3 s3 a3 => ?_)
    · exact ⟨acc, s4 _ _ hacc, line_lt (by omega), same_mut (e.trans s4) hD, acc ++ [y], upd_same, by rw [List.length_append]; exact Nat.succ_le_succ hl, a4 _ (fun b o hb n => by rw [upd_ne n]; exact hb) upd_same⟩
    · exact ⟨e.trans s3, acc, s3 _ _ hacc, Nat.le_succ_of_le hl, a3⟩
  · rintro H' ⟨e, acc, hacc, hl, ha⟩
    exact hd acc H' e hacc hl ha
theorem lc_accR {lo : Int} {n : Nat} (hD : H1 D = none) (hz : n < 100000) (Acc : Nat → List V → Hp → Prop) (h0 : ∀ H', Same H1 H' → Acc 0 [] H')
    (hs : ∀ i acc H' (N : V → Hp → Prop) (N0 : Hp → Prop), i < n → Same H1 H' → H' D = some (.lst acc) → Acc i acc H' →
      (∀ y H4, Same H' H4 → (∀ H5, But D H4 H5 → H5 D = some (.lst (acc ++ [y])) → Acc (i + 1) (acc ++ [y]) H5) → N y H4) → (∀ H3, Same H' H3 → Acc (i + 1) acc H3 → N0 H3) →
      g (.int (lo + i)) (wipe σ vs) H' fun σ2 H2 => wipe σ2 vs = wipe σ vs ∧ tt σ2 H2 fun b H3 => if b = true then te σ2 H3 N else N0 H3)
    (hd : ∀ acc H', Same H1 H' → H' D = some (.lst acc) → acc.length ≤ n → Acc n acc H' → Q H') :
    ∃ W : Nat → Nat → Hp → Prop, (∃ m, W 0 m (upd H1 D (.lst []))) ∧ ∀ i m H, W i m H →
      ((Itr lo n).stop i H ∧ Q H) ∨ ((Itr lo n).go i H ∧ ∃ Nx : Hp → Prop, (∀ H', Nx H' → ∃ m', m' < m ∧ W (i + 1) m' H') ∧ ∀ x H', (Itr lo n).yld i H x H' → g x (wipe σ vs) H' fun σ2 H2 => wipe σ2 vs = wipe σ vs ∧ tt σ2 H2 fun b H3 =>
        if b = true then te σ2 H3 fun y H4 => ∃ acc, H4 D = some (.lst acc) ∧ acc.length < sizeLine ∧ Nx (upd H4 D (.lst (acc ++ [y]))) else Nx H3) := by
  refine lc_range (lo := lo) (n := n) (fun i H' => Same H1 H' ∧ ∃ acc, H' D = some (.lst acc) ∧ acc.length ≤ i ∧ Acc i acc H') ⟨same_new hD, [], upd_same, Nat.le_refl _, h0 _ (same_new hD)⟩ ?_ ?_
  · rintro i H' hi ⟨e, acc, hacc, hl, ha⟩
    refine hs i acc H' _ _ hi e hacc ha (fun y H4 s4 a4 => ?_) (fun H3 s3 a3 => ?_)
    · exact ⟨acc, s4 _ _ hacc, line_lt (by omega), same_mut (e.trans s4) hD, acc ++ [y], upd_same, by rw [List.length_append]; exact Nat.succ_le_succ hl, a4 _ (fun b o hb n => by rw [upd_ne n]; exact hb) upd_same⟩
    · exact ⟨e.trans s3, acc, s3 _ _ hacc, Nat.le_succ_of_le hl, a3⟩
  · rintro H' ⟨e, acc, hacc, hl, ha⟩
    exact hd acc H' e hacc hl ha
end
theorem cutV_map {α : Type} (f : α → V) (ns : List α) (lo hi : Option Int) : ∃ ms : List α, cutV (ns.map f) lo hi = ms.map f ∧ ms = (ns.drop (HT.sIx ns.length 0 lo)).take (HT.sIx ns.length ns.length hi - HT.sIx ns.length 0 lo) := by
  refine ⟨_, ?_, rfl⟩
  unfold cutV
  rw [List.length_map, List.map_take, List.map_drop]
end L2
end
section
set_option maxRecDepth 100000
set_option maxHeartbeats 4000000
namespace L2
open PySem PySem.Spec PyProof.Rows
/-- for i, x in enumerate(list, start = k) -/
theorem for_enumS {K : PySem.W.Frag} {a : Addr} {xs : List V} {k : Int} {g : TG} {tb : TS} {D : Ends} {σ : St} {H : Hp} (Pv : Nat → St → Hp → Prop) (h0 : Pv 0 σ H) (hl : ∀ i σ H, i ≤ xs.length → Pv i σ H → SqL K H a xs)
    (hs : ∀ i x σ H T, xs[i]? = some x → Pv i σ H → H T = none → g (.ref T) σ (upd H T (.tup [.int (k + (i : Nat)), x])) fun σ2 H2 => tb { D with nx := Pv (i + 1), ct := Pv (i + 1), bk := D.nx } σ2 H2) (hd : ∀ σ H, Pv xs.length σ H → D.nx σ H) :
    ∃ W : Nat → Nat → St → Hp → Prop, (∃ m, W 0 m σ H) ∧ ∀ i m σ H, W i m σ H →
      ((IteS K a k).stop i H ∧ D.nx σ H) ∨ ((IteS K a k).go i H ∧ ∃ N : St → Hp → Prop, (∀ σ' H', N σ' H' → ∃ m', m' < m ∧ W (i + 1) m' σ' H') ∧ ∀ x H', (IteS K a k).yld i H x H' → g x σ H' fun σ2 H2 => tb { D with nx := N, ct := N, bk := D.nx } σ2 H2) := by
  refine ⟨fun i m σ H => m = xs.length - i ∧ i ≤ xs.length ∧ Pv i σ H, ⟨_, rfl, Nat.zero_le _, h0⟩, fun i m σ H w => ?_⟩
  obtain ⟨rfl, hi, p⟩ := w
  have q := hl i σ H hi p
  rcases Nat.lt_or_ge i xs.length with hlt | hge
  · refine .inr ⟨⟨xs, _, q, List.getElem?_eq_getElem hlt⟩, Pv (i + 1), fun σ' H' p' => ⟨xs.length - (i + 1), by omega, rfl, hlt, p'⟩, ?_⟩
    rintro x H' ⟨T, y, rfl, hT, rfl, hy⟩
    exact hs i y σ H T (hy xs q) p hT
  · have e : i = xs.length := by omega
    subst e
    exact .inl ⟨⟨xs, q, Nat.le_refl _⟩, hd σ H p⟩
theorem drop_get {α : Type} {l : List α} {i : Nat} {x : α} (h : l[i]? = some x) : l.drop i = x :: l.drop (i + 1) := by
  obtain ⟨hi, e⟩ := List.getElem?_eq_some_iff.mp h
  rw [List.drop_eq_getElem_cons hi, e]
theorem take_get {α : Type} {l : List α} {i : Nat} {x : α} (h : l[i]? = some x) : l.take (i + 1) = l.take i ++ [x] := by
  rw [List.take_succ, h]; rfl
/-! ### a pair of ints, list or tuple -/
def PairR (K : PySem.W.Frag) (H : Hp) (x : V) (c : Int × Int) : Prop := ∃ t, x = .ref t ∧ (SqT K H t [.int c.1, .int c.2] ∨ SqL K H t [.int c.1, .int c.2])
def PairsR (K : PySem.W.Frag) (H : Hp) : List V → List (Int × Int) → Prop := Paired (PairR K H)
theorem PairR.same {K : PySem.W.Frag} {H H' : Hp} (e : Same H H') {x : V} {c : Int × Int} (h : PairR K H x c) : PairR K H' x c := by
  obtain ⟨t, rfl, h | h⟩ := h
  · exact ⟨t, rfl, .inl (e.tup h)⟩
  · exact ⟨t, rfl, .inr (e.seq h)⟩
theorem PairsR.same {K : PySem.W.Frag} {H H' : Hp} (e : Same H H') {xs : List V} {cs : List (Int × Int)} (h : PairsR K H xs cs) : PairsR K H' xs cs := Paired.mapP h fun _ _ z => z.same e
theorem PairsR.get {K : PySem.W.Frag} {H : Hp} {xs : List V} {cs : List (Int × Int)} (h : PairsR K H xs cs) {i : Nat} {x : V} (hx : xs[i]? = some x) : ∃ c, cs[i]? = some c ∧ PairR K H x c := paired_get h hx
theorem PairsR.len {K : PySem.W.Frag} {H : Hp} {xs : List V} {cs : List (Int × Int)} (h : PairsR K H xs cs) : xs.length = cs.length := Paired.length h
/-- x[0], x[1] of such -/
theorem PairR.ix0 {K : PySem.W.Frag} {H : Hp} {x : V} {c : Int × Int} (h : PairR K H x c) {Q : VK} (q : Q (.int c.1) H) : rIx K x (.int 0) H Q := by
  obtain ⟨t, rfl, h | h⟩ := h
  · exact .inr (.inl ⟨t, _, 0, _, rfl, rfl, h, rfl, q⟩)
  · exact .inl ⟨t, _, 0, _, rfl, rfl, h, rfl, q⟩
theorem PairR.ix1 {K : PySem.W.Frag} {H : Hp} {x : V} {c : Int × Int} (h : PairR K H x c) {Q : VK} (q : Q (.int c.2) H) : rIx K x (.int 1) H Q := by
  obtain ⟨t, rfl, h | h⟩ := h
  · exact .inr (.inl ⟨t, _, 1, _, rfl, rfl, h, rfl, q⟩)
  · exact .inl ⟨t, _, 1, _, rfl, rfl, h, rfl, q⟩
/-- the slots behind a, b = such -/
theorem PairR.unpack {K : PySem.W.Frag} {H : Hp} {x : V} {c : Int × Int} (h : PairR K H x c) {σ : St} {i j : Nat} {Q : St → Hp → Prop} (q : Q ((σ.set i (some (.int c.1))).set j (some (.int c.2))) H) : gSeq K 2 (gCons (gName i) (gCons (gName j) gNil)) x σ H Q := by
  obtain ⟨t, rfl, h | h⟩ := h
  · exact .inl ⟨t, _, rfl, h, rfl, _, _, rfl, _, _, rfl, rfl, q⟩
  · exact .inr ⟨t, _, rfl, h, rfl, _, _, rfl, _, _, rfl, rfl, q⟩
end L2
namespace L2
open PySem PySem.Spec PyProof.Rows
/-! ### rules with the written part named (within comprehensions) -/
section
variable {X : Cx} {K : PySem.W.Frag}
theorem ix_seqK (h : X.K = K) : IxR X (rIx K) := h ▸ ix_seq
theorem ix_listK (h : X.K = K) : IxR X (rIxL K) := h ▸ ix_list
theorem ix_tupK (h : X.K = K) : IxR X (rIxT K) := h ▸ ix_tup
theorem get_listK (h : X.K = K) : PGet X (rIxL K) := h ▸ get_list
theorem len_seqK (h : X.K = K) : CallR X (.builtin "len") (fun xs H Q => ∃ p ys, xs = [.ref p] ∧ (SqL K H p ys ∨ SqT K H p ys) ∧ Q (.int ys.length) H) := h ▸ call_len_seq
theorem list_ofK (h : X.K = K) : CallR X (.type "list") (fun xs H Q => ∃ p ys, xs = [.ref p] ∧ (SqL K H p ys ∨ SqT K H p ys) ∧ ∀ l, H l = none → Q (.ref l) (upd H l (.lst ys))) := h ▸ call_list_of
theorem anyK (h : X.K = K) (hc : X.calm = true) : CallR X (.builtin "any") (rAny K) := h ▸ cr_any hc
theorem sumK (h : X.K = K) (hc : X.calm = true) : CallR X (.builtin "sum") (rSum K) := h ▸ cr_sum hc
theorem maxK (h : X.K = K) (hc : X.calm = true) : CallR X (.builtin "max") (rMax K) := h ▸ cr_max hc
theorem minK (h : X.K = K) (hc : X.calm = true) : CallR X (.builtin "min") (rMin K) := h ▸ cr_min hc
theorem sl_listK (h : X.K = K) : SlR X (rSlL K) := h ▸ sl_list
theorem eqDK (h : X.K = K) (hu : X.A.units + 64 < cLine) : OpR X (compareOp .Eq) (rEqD K) := h ▸ op_eqD hu
theorem neDK (h : X.K = K) (hu : X.A.units + 64 < cLine) : OpR X (compareOp .NotEq) (rNeD K) := h ▸ op_neD hu
theorem isiK (h : X.K = K) : CallR X (.builtin "isinstance") (rIsi K) := h ▸ call_isi
theorem isiTK (h : X.K = K) : CallR X (.builtin "isinstance") (rIsiT K) := h ▸ call_isiT
theorem pg_tupK {pos : Pos} {es : List Expr} {k : Nat} {t : TGs} {n : Nat} (e : X.K = K) (hc : X.calm = true) (h : PGs X es t)
    (hn : (assignEach es X.env).length = n := by rfl) (hst : (assignEach es X.env).findIdx? (·.1) = none := by rfl) : PG X (.Tuple es k pos) (gTup K n t) := e ▸ pg_tup hc h hn hst
theorem pg_seqK {pos : Pos} {es : List Expr} {k : Nat} {t : TGs} {n : Nat} (e : X.K = K) (hc : X.calm = true) (h : PGs X es t)
    (hn : (assignEach es X.env).length = n := by rfl) (hst : (assignEach es X.env).findIdx? (·.1) = none := by rfl) : PG X (.Tuple es k pos) (gSeq K n t) := e ▸ pg_seq hc h hn hst
theorem pi_listK {tg e : Expr} {te : TE} (h : X.K = K) (he : PE X e te) : PI X tg e (iList K te) := h ▸ pi_list he
end
end L2
namespace L2
open PySem PySem.Spec PyProof.Rows
theorem for_upto {lo : Int} {n L : Nat} {g : TG} {tb : TS} {D : Ends} {σ : St} {H : Hp} (hn : n = L) (Pv : Nat → St → Hp → Prop) (h0 : Pv 0 σ H)
    (hs : ∀ i σ H, i < L → Pv i σ H → g (.int (lo + i)) σ H fun σ2 H2 => tb { D with nx := Pv (i + 1), ct := Pv (i + 1), bk := D.nx } σ2 H2) (hd : ∀ σ H, Pv L σ H → D.nx σ H) :
    ∃ W : Nat → Nat → St → Hp → Prop, (∃ m, W 0 m σ H) ∧ ∀ i m σ H, W i m σ H →
      ((Itr lo n).stop i H ∧ D.nx σ H) ∨ ((Itr lo n).go i H ∧ ∃ N : St → Hp → Prop, (∀ σ' H', N σ' H' → ∃ m', m' < m ∧ W (i + 1) m' σ' H') ∧ ∀ x H', (Itr lo n).yld i H x H' → g x σ H' fun σ2 H2 => tb { D with nx := N, ct := N, bk := D.nx } σ2 H2) := by
  subst hn
  exact for_range Pv h0 hs hd
theorem ints_ix {ns : List Int} {i : Nat} (h : i < ns.length) : ∃ z, ns[i]? = some z := ⟨_, List.getElem?_eq_getElem h⟩
end L2
end
section
set_option maxRecDepth 100000
set_option maxHeartbeats 4000000
namespace L2
open PySem PySem.Spec PyProof.Rows
theorem cut_take (xs : List V) {z : Int} {k : Nat} (h : z = (k : Int)) : cutV xs none (some z) = xs.take k := by
  subst h
  unfold cutV
  rw [HT.sIx_nat, HT.sIx_none, List.drop_zero, Nat.sub_zero]
  rcases Nat.le_total k xs.length with h | h
  · rw [Nat.min_eq_left h]
  · rw [Nat.min_eq_right h, List.take_length, List.take_of_length_le h]
theorem cut_drop (xs : List V) {z : Int} {k : Nat} (h : z = (k : Int)) : cutV xs (some z) none = xs.drop k := by
  subst h
  unfold cutV
  rw [HT.sIx_nat, HT.sIx_none]
  rcases Nat.le_total k xs.length with h | h
  · rw [Nat.min_eq_left h, List.take_of_length_le]
    rw [List.length_drop]; omega
  · rw [Nat.min_eq_right h, List.drop_length, List.drop_of_length_le h]
    exact List.take_nil
/-- x[i:] of a list, as slicing of what stands there -/
theorem map_take {α : Type} (f : α → V) (ns : List α) (k : Nat) : (ns.map f).take k = (ns.take k).map f := List.map_take.symm
theorem map_drop {α : Type} (f : α → V) (ns : List α) (k : Nat) : (ns.map f).drop k = (ns.drop k).map f := List.map_drop.symm
theorem max_eq {ns : List Int} {m m' : Int} (h : m ∈ ns) (hm : ∀ y ∈ ns, y ≤ m) (h' : m' ∈ ns) (hm' : ∀ y ∈ ns, y ≤ m') : m = m' := Int.le_antisymm (hm' _ h) (hm _ h')
theorem PairR.unpackN {K : PySem.W.Frag} {H : Hp} {x : V} {c : Int × Int} (h : PairR K H x c) {σ : St} {i j n : Nat} (hn : n = 2) {Q : St → Hp → Prop} (q : Q ((σ.set i (some (.int c.1))).set j (some (.int c.2))) H) : gSeq K n (gCons (gName i) (gCons (gName j) gNil)) x σ H Q := by
  subst hn
  exact h.unpack q
section
variable {K : PySem.W.Frag} {D : Addr} {g : TG} {tt : TT} {te : TE} {vs : List Nat} {σ : St} {H1 : Hp} {Q : Hp → Prop}
theorem lc_upto {lo : Int} {n L : Nat} (hn : n = L) (hD : H1 D = none) (hz : L < 100000) (Acc : Nat → List V → Hp → Prop) (h0 : ∀ H', Same H1 H' → Acc 0 [] H')
    (hs : ∀ i acc H' (N : V → Hp → Prop) (N0 : Hp → Prop), i < L → Same H1 H' → H' D = some (.lst acc) → Acc i acc H' →
      (∀ y H4, Same H' H4 → (∀ H5, But D H4 H5 → H5 D = some (.lst (acc ++ [y])) → Acc (i + 1) (acc ++ [y]) H5) → N y H4) → (∀ H3, Same H' H3 → Acc (i + 1) acc H3 → N0 H3) →
      g (.int (lo + i)) (wipe σ vs) H' fun σ2 H2 => wipe σ2 vs = wipe σ vs ∧ tt σ2 H2 fun b H3 => if b = true then te σ2 H3 N else N0 H3)
    (hd : ∀ acc H', Same H1 H' → H' D = some (.lst acc) → acc.length ≤ L → Acc L acc H' → Q H') :
    ∃ W : Nat → Nat → Hp → Prop, (∃ m, W 0 m (upd H1 D (.lst []))) ∧ ∀ i m H, W i m H →
      ((Itr lo n).stop i H ∧ Q H) ∨ ((Itr lo n).go i H ∧ ∃ Nx : Hp → Prop, (∀ H', Nx H' → ∃ m', m' < m ∧ W (i + 1) m' H') ∧ ∀ x H', (Itr lo n).yld i H x H' → g x (wipe σ vs) H' fun σ2 H2 => wipe σ2 vs = wipe σ vs ∧ tt σ2 H2 fun b H3 =>
        if b = true then te σ2 H3 fun y H4 => ∃ acc, H4 D = some (.lst acc) ∧ acc.length < sizeLine ∧ Nx (upd H4 D (.lst (acc ++ [y]))) else Nx H3) := by
  subst hn
  exact lc_accR hD hz Acc h0 hs hd
end
/-! ### what stands elsewhere than at a -/
section
variable {K : PySem.W.Frag} {sa : Addr} {H H' : Hp}
theorem But.seq (e : But sa H H') {a : Addr} {xs : List V} (n : a ≠ sa) (h : SqL K H a xs) : SqL K H' a xs := by
  rcases h with (h | ⟨o, h⟩) | h
  · exact .inl (.inl (e _ _ h n))
  · exact .inl (.inr ⟨o, e _ _ h n⟩)
  · exact .inr h
theorem But.tup (e : But sa H H') {a : Addr} {xs : List V} (n : a ≠ sa) (h : SqT K H a xs) : SqT K H' a xs := by
  rcases h with (h | ⟨o, h⟩) | h
  · exact .inl (.inl (e _ _ h n))
  · exact .inl (.inr ⟨o, e _ _ h n⟩)
  · exact .inr h
theorem Same.but (e : Same H H') : But sa H H' := But.of e
theorem PairR.but (e : But sa H H') {x : V} {c : Int × Int} (n : x ≠ .ref sa) (h : PairR K H x c) : PairR K H' x c := by
  obtain ⟨t, rfl, h | h⟩ := h
  · exact ⟨t, rfl, .inl (e.tup (fun z => n (by rw [z])) h)⟩
  · exact ⟨t, rfl, .inr (e.seq (fun z => n (by rw [z])) h)⟩
/-- such, none of them at D -/
def PairD (K : PySem.W.Frag) (D : Addr) (H : Hp) (x : V) (c : Int × Int) : Prop := PairR K H x c ∧ x ≠ .ref D
def PairsD (K : PySem.W.Frag) (D : Addr) (H : Hp) : List V → List (Int × Int) → Prop := Paired (PairD K D H)
theorem PairsD.but {D : Addr} (e : But D H H') {xs : List V} {cs : List (Int × Int)} (h : PairsD K D H xs cs) : PairsD K D H' xs cs := Paired.mapP h fun _ _ z => ⟨z.1.but e z.2, z.2⟩
theorem PairsD.same {D : Addr} (e : Same H H') {xs : List V} {cs : List (Int × Int)} (h : PairsD K D H xs cs) : PairsD K D H' xs cs := Paired.mapP h fun _ _ z => ⟨z.1.same e, z.2⟩
theorem PairsD.prs {D : Addr} {xs : List V} {cs : List (Int × Int)} (h : PairsD K D H xs cs) : PairsR K H xs cs := Paired.mapP h fun _ _ z => z.1
theorem paired_snoc {α β : Type} {R : α → β → Prop} {xs : List α} {ys : List β} {x : α} {y : β} (h : Paired R xs ys) (r : R x y) : Paired R (xs ++ [x]) (ys ++ [y]) := by
  induction h with
  | nil => exact .cons r .nil
  | cons a _ ih => exact .cons a ih
theorem PairsR.but (e : But sa H H') {xs : List V} {cs : List (Int × Int)} (n : ∀ x ∈ xs, x ≠ .ref sa) (h : PairsR K H xs cs) : PairsR K H' xs cs := by
  induction h with
  | nil => exact .nil
  | cons a _ ih => exact .cons (a.but e (n _ List.mem_cons_self)) (ih fun x hx => n x (List.mem_cons_of_mem _ hx))
theorem paired_app {α β : Type} {R : α → β → Prop} {xs xs' : List α} {ys ys' : List β} (h : Paired R xs ys) (h' : Paired R xs' ys') : Paired R (xs ++ xs') (ys ++ ys') := by
  induction h with
  | nil => exact h'
  | cons a _ ih => exact .cons a ih
end
section
variable {K : PySem.W.Frag} {a D sa : Addr} {xs : List V} {g : TG} {tt : TT} {te : TE} {vs : List Nat} {σ : St} {H1 : Hp} {Q : Hp → Prop}
/-- a comprehension whose element changes what stands at sa -/
theorem lc_accB (hD : H1 D = none) (hsa : H1 sa ≠ none) (ha : a ≠ sa) (hS : SqL K H1 a xs) (hz : xs.length < 100000) (Acc : Nat → List V → Hp → Prop) (h0 : ∀ H', Same H1 H' → Acc 0 [] H')
    (hs : ∀ i x acc H' (N : V → Hp → Prop) (N0 : Hp → Prop), xs[i]? = some x → But sa H1 H' → H' D = some (.lst acc) → Acc i acc H' →
      (∀ y H4, But sa H' H4 → (∀ H5, But D H4 H5 → H5 D = some (.lst (acc ++ [y])) → Acc (i + 1) (acc ++ [y]) H5) → N y H4) → (∀ H3, But sa H' H3 → Acc (i + 1) acc H3 → N0 H3) →
      g x (wipe σ vs) H' fun σ2 H2 => wipe σ2 vs = wipe σ vs ∧ tt σ2 H2 fun b H3 => if b = true then te σ2 H3 N else N0 H3)
    (hd : ∀ acc H', But sa H1 H' → H' D = some (.lst acc) → acc.length ≤ xs.length → Acc xs.length acc H' → Q H') :
    ∃ W : Nat → Nat → Hp → Prop, (∃ m, W 0 m (upd H1 D (.lst []))) ∧ ∀ i m H, W i m H →
      ((Itl K a).stop i H ∧ Q H) ∨ ((Itl K a).go i H ∧ ∃ Nx : Hp → Prop, (∀ H', Nx H' → ∃ m', m' < m ∧ W (i + 1) m' H') ∧ ∀ x H', (Itl K a).yld i H x H' → g x (wipe σ vs) H' fun σ2 H2 => wipe σ2 vs = wipe σ vs ∧ tt σ2 H2 fun b H3 =>
        if b = true then te σ2 H3 fun y H4 => ∃ acc, H4 D = some (.lst acc) ∧ acc.length < sizeLine ∧ Nx (upd H4 D (.lst (acc ++ [y]))) else Nx H3) := by
  have hDs : D ≠ sa := fun z => hsa (z ▸ hD)
  refine lc_list (K := K) (a := a) (xs := xs) (fun i H' => But sa H1 H' ∧ ∃ acc, H' D = some (.lst acc) ∧ acc.length ≤ i ∧ Acc i acc H') ⟨But.of (same_new hD), [], upd_same, Nat.le_refl _, h0 _ (same_new hD)⟩ (fun i H' _ h => h.1.seq ha hS) ?_ ?_
  · rintro i x H' hx ⟨e, acc, hacc, hl, ha'⟩
    have hi : i < xs.length := (List.getElem?_eq_some_iff.mp hx).1
    refine hs i x acc H' _ _ hx e hacc ha' (fun y H4 s4 a4 => ?_) (fun H3 s3 a3 => ?_)
    · exact ⟨acc, s4 _ _ hacc hDs, line_lt (by omega), (e.trans s4).mut hD, acc ++ [y], upd_same, by rw [List.length_append]; exact Nat.succ_le_succ hl, a4 _ (fun b o hb n => by rw [upd_ne n]; exact hb) upd_same⟩
    · exact ⟨e.trans s3, acc, s3 _ _ hacc hDs, Nat.le_succ_of_le hl, a3⟩
  · rintro H' ⟨e, acc, hacc, hl, ha'⟩
    exact hd acc H' e hacc hl ha'
theorem lc_uptoB {lo : Int} {n L : Nat} (hn : n = L) (hD : H1 D = none) (hsa : H1 sa ≠ none) (hz : L < 100000) (Acc : Nat → List V → Hp → Prop) (h0 : ∀ H', Same H1 H' → Acc 0 [] H')
    (hs : ∀ i acc H' (N : V → Hp → Prop) (N0 : Hp → Prop), i < L → But sa H1 H' → H' D = some (.lst acc) → Acc i acc H' →
      (∀ y H4, But sa H' H4 → (∀ H5, But D H4 H5 → H5 D = some (.lst (acc ++ [y])) → Acc (i + 1) (acc ++ [y]) H5) → N y H4) → (∀ H3, But sa H' H3 → Acc (i + 1) acc H3 → N0 H3) →
      g (.int (lo + i)) (wipe σ vs) H' fun σ2 H2 => wipe σ2 vs = wipe σ vs ∧ tt σ2 H2 fun b H3 => if b = true then te σ2 H3 N else N0 H3)
    (hd : ∀ acc H', But sa H1 H' → H' D = some (.lst acc) → acc.length ≤ L → Acc L acc H' → Q H') :
    ∃ W : Nat → Nat → Hp → Prop, (∃ m, W 0 m (upd H1 D (.lst []))) ∧ ∀ i m H, W i m H →
      ((Itr lo n).stop i H ∧ Q H) ∨ ((Itr lo n).go i H ∧ ∃ Nx : Hp → Prop, (∀ H', Nx H' → ∃ m', m' < m ∧ W (i + 1) m' H') ∧ ∀ x H', (Itr lo n).yld i H x H' → g x (wipe σ vs) H' fun σ2 H2 => wipe σ2 vs = wipe σ vs ∧ tt σ2 H2 fun b H3 =>
        if b = true then te σ2 H3 fun y H4 => ∃ acc, H4 D = some (.lst acc) ∧ acc.length < sizeLine ∧ Nx (upd H4 D (.lst (acc ++ [y]))) else Nx H3) := by
  subst hn
  have hDs : D ≠ sa := fun z => hsa (z ▸ hD)
  refine lc_range (lo := lo) (n := n) (fun i H' => But sa H1 H' ∧ ∃ acc, H' D = some (.lst acc) ∧ acc.length ≤ i ∧ Acc i acc H') ⟨But.of (same_new hD), [], upd_same, Nat.le_refl _, h0 _ (same_new hD)⟩ ?_ ?_
  · rintro i H' hi ⟨e, acc, hacc, hl, ha'⟩
    refine hs i acc H' _ _ hi e hacc ha' (fun y H4 s4 a4 => ?_) (fun H3 s3 a3 => ?_)
    · exact ⟨acc, s4 _ _ hacc hDs, line_lt (by omega), (e.trans s4).mut hD, acc ++ [y], upd_same, by rw [List.length_append]; exact Nat.succ_le_succ hl, a4 _ (fun b o hb n => by rw [upd_ne n]; exact hb) upd_same⟩
    · exact ⟨e.trans s3, acc, s3 _ _ hacc hDs, Nat.le_succ_of_le hl, a3⟩
  · rintro H' ⟨e, acc, hacc, hl, ha'⟩
    exact hd acc H' e hacc hl ha'
end
theorem seq_via {t u : TS} {D : Ends} {σ : St} {H : Hp} (C : St → Hp → Prop) (h : ∀ U : St → Hp → Prop, (∀ σ' H', C σ' H' → U σ' H') → t { D with nx := U } σ H) (h2 : ∀ σ' H', C σ' H' → u D σ' H') : tSeq t u D σ H := h (u D) h2
section
variable {X : Cx} {K : PySem.W.Frag} {tg e : Expr} {w1 w2 : TI}
def iOr (w1 w2 : TI) : TI := fun σ H R => w1 σ H R ∨ w2 σ H R
theorem pi_or (h1 : PI X tg e w1) (h2 : PI X tg e w2) : PI X tg e (iOr w1 w2) := ⟨fun pins s σ H R I h => h.elim (h1.run pins s σ H R I) (h2.run pins s σ H R I)⟩
theorem pi_tupK {te : TE} (h : X.K = K) (he : PE X e te) : PI X tg e (iTup K te) := h ▸ pi_tup he
end
end L2
end
section
set_option maxRecDepth 100000
set_option maxHeartbeats 4000000
namespace L2
open PySem PySem.Spec PyProof.Rows
/-! ### plain data, compared with itself -/
theorem dpall_ints {K : PySem.W.Frag} {H : Hp} : ∀ ns : List Int, DpAll K H (ns.map V.int) (ns.map PyData.int)
  | [] => .nil
  | n :: t => .cons (.int n) (dpall_ints t)
theorem dp_ints {K : PySem.W.Frag} {H : Hp} {a : Addr} {ns : List Int} (h : SqL K H a (ns.map V.int)) : Dp K H (.ref a) (.list (ns.map PyData.int)) := .lst h (dpall_ints ns)
theorem canLay_of {d : PyData} (h : SeqAt.shaped d = true) : d.canLay0 = true := (Bool.and_eq_true_iff.mp h).1
theorem eqv_self {d : PyData} (h : SeqAt.shaped d = true) : PyData.eqv d d = true := SeqAt.eqv_refl d (canLay_of h)
theorem shaped_nums (ns : List Int) : SeqAt.shaped (.list (ns.map PyData.int)) = true := PySem.W.shaped_ints ns
end L2
end
section
set_option maxRecDepth 100000
set_option maxHeartbeats 4000000
namespace L2
open PySem PySem.Spec PyProof.Rows
/-! ### pairs of ints, each a list or a tuple, as data -/
abbrev G3 : Type := Bool × Int × Int
def dG (g : G3) : PyData := if g.1 = true then .list [.int g.2.1, .int g.2.2] else .tuple [.int g.2.1, .int g.2.2]
def datG (gs : List G3) : PyData := .list (gs.map dG)
def Sm (n : Int) : Prop := 0 ≤ n ∧ n < 4294967296
theorem sm_log {n : Int} (h : Sm n) : n.natAbs.log2 ≤ 32 := by
  obtain ⟨h0, h1⟩ := h
  by_cases z : n.natAbs = 0
  · rw [z]; decide
  · exact Nat.le_of_lt_succ ((Nat.log2_lt z).mpr (by omega))
theorem sm_short {n : Int} (h : Sm n) : ((PyData.int n).shown).length ≤ 13 := PyData.shown_int_le2 (by have := h.1; omega) (by have := h.2; omega)
theorem sm_show {n : Int} (h : Sm n) : (PyData.int n).showable = true := by
  have := sm_log h
  unfold PyData.showable
  exact decide_eq_true (by omega)
theorem sm_weight {n : Int} (h : Sm n) : (PyData.int n).weight ≤ 33 := by
  have := sm_log h
  unfold PyData.weight
  split <;> omega
structure GoodD (d : PyData) (dp wt : Nat) : Prop where
  show_ : d.showable = true
  dict : d.hasDict = false
  depth : d.depth ≤ dp
  lay : d.canLay0 = true
  weight : d.weight ≤ wt
  short : d.intsShort 13 = true
theorem good_int {n : Int} (h : Sm n) : GoodD (.int n) 0 33 := ⟨sm_show h, by unfold PyData.hasDict; rfl, by unfold PyData.depth; exact Nat.le_refl _, by unfold PyData.canLay0; rfl, sm_weight h, by unfold PyData.intsShort; exact decide_eq_true (sm_short h)⟩
structure GoodA (ds : List PyData) (dp wt : Nat) : Prop where
  show_ : PyData.showableAll ds = true
  dict : PyData.hasDictAll ds = false
  depth : PyData.depthAll ds ≤ dp
  lay : PyData.canLayAll0 ds = true
  weight : PyData.weightAll ds ≤ wt * ds.length
  short : PyData.intsShortAll 13 ds = true
theorem good_all {dp wt : Nat} : ∀ ds : List PyData, (∀ d ∈ ds, GoodD d dp wt) → GoodA ds dp (wt + 1)
  | [], _ => ⟨by unfold PyData.showableAll; rfl, by unfold PyData.hasDictAll; rfl, by unfold PyData.depthAll; exact Nat.zero_le _, by unfold PyData.canLayAll0; rfl, by unfold PyData.weightAll; exact Nat.zero_le _, by unfold PyData.intsShortAll; rfl⟩
  | d :: t, h => by
    have hd := h d List.mem_cons_self
    have ht := good_all t fun e he => h e (List.mem_cons_of_mem _ he)
    refine ⟨by unfold PyData.showableAll; rw [hd.show_, ht.show_]; rfl, by unfold PyData.hasDictAll; rw [hd.dict, ht.dict]; rfl, by unfold PyData.depthAll; have := hd.depth; have := ht.depth; omega, by unfold PyData.canLayAll0; rw [hd.lay, ht.lay]; rfl, ?_, by unfold PyData.intsShortAll; rw [hd.short, ht.short]; rfl⟩
    unfold PyData.weightAll
    have h1 := hd.weight
    have h2 := ht.weight
    rw [List.length_cons, Nat.mul_succ]
    omega
theorem GoodA.list {ds : List PyData} {dp wt : Nat} (h : GoodA ds dp wt) : GoodD (.list ds) (dp + 1) (wt * ds.length) :=
  ⟨by unfold PyData.showable; exact h.show_, by unfold PyData.hasDict; exact h.dict, by unfold PyData.depth; exact Nat.succ_le_succ h.depth, by unfold PyData.canLay0; exact h.lay, by unfold PyData.weight; exact h.weight, by unfold PyData.intsShort; exact h.short⟩
theorem GoodA.tuple {ds : List PyData} {dp wt : Nat} (h : GoodA ds dp wt) : GoodD (.tuple ds) (dp + 1) (wt * ds.length) :=
  ⟨by unfold PyData.showable; exact h.show_, by unfold PyData.hasDict; exact h.dict, by unfold PyData.depth; exact Nat.succ_le_succ h.depth, by unfold PyData.canLay0; exact h.lay, by unfold PyData.weight; exact h.weight, by unfold PyData.intsShort; exact h.short⟩
theorem good_dG {g : G3} (h1 : Sm g.2.1) (h2 : Sm g.2.2) : GoodD (dG g) 1 68 := by
  have ha : GoodA [PyData.int g.2.1, PyData.int g.2.2] 0 34 := good_all _ fun d hd => by
    rcases List.mem_cons.mp hd with rfl | hd
    · exact good_int h1
    · rw [List.mem_singleton.mp hd]; exact good_int h2
  unfold dG
  split
  · exact ha.list
  · exact ha.tuple
theorem good_datG {gs : List G3} (h : ∀ g ∈ gs, Sm g.2.1 ∧ Sm g.2.2) : GoodD (datG gs) 2 (69 * gs.length) := by
  have := (good_all (gs.map dG) fun d hd => by
    obtain ⟨g, hg, rfl⟩ := List.mem_map.mp hd
    exact good_dG (h g hg).1 (h g hg).2).list
  rw [List.length_map] at this
  exact this
theorem GoodD.fits {d : PyData} {dp wt : Nat} (h : GoodD d dp wt) (h1 : dp ≤ 64) (h2 : wt ≤ 2 ^ 20) : d.shown.length ≤ sizeLine := by
  refine PyData.shown_fits_of_layable0 (B := 13) (by decide) (by decide) ?_ h.short
  unfold PyData.layable0
  rw [h.lay, decide_eq_true (Nat.le_trans h.depth h1), decide_eq_true (Nat.le_trans h.weight h2)]
  rfl
theorem GoodD.shaped {d : PyData} {dp wt : Nat} (h : GoodD d dp wt) (h1 : dp ≤ 64) : SeqAt.shaped d = true := by
  unfold SeqAt.shaped
  rw [h.lay, decide_eq_true (Nat.le_trans h.depth h1)]
  rfl
end L2
end
section
set_option maxRecDepth 100000
set_option maxHeartbeats 4000000
namespace LamX
open PySem PySem.Spec PyProof.Rows L2
/-! ### x(), what it may raise told of the slots at the call -/
section
variable {X : Cx} {pins : List (Addr × Obj)} {σ : L2.St} {H : Hp} {s : Shared}
theorem pe_act3 {CXg : CXT} {Eg : XK} {Ng : List Str} {qg : Str} {sg : Scope} {g f c' : Addr} {cdg pm ctv : Value} {params : Arguments} {body : Expr} {scope : Scope} {k i : Nat} {a : Str} {pn : List (Addr × Obj)} {xe : Value → Shared → Prop} {W : WX} {E : XK} {tb : TE} {p1 p2 : Pos}
    (I : Inv X pins σ H s) (L : LamS X.env.scope scope) (hf : s.heap.get? f = some (PySem.W.kla_obj "<lambda>" (X.env.qual ++ "<lambda>") params body scope (cloFrom X.env.cells scope.names []) pm c' ctv)) (hfn : H f = none) (hfr : f ∉ frs X.stack)
    (hbind : bindArgs (PySem.W.kla_fn "<lambda>" (X.env.qual ++ "<lambda>") params body scope (cloFrom X.env.cells scope.names []) pm (.ref c') ctv) ⟨[], []⟩ = pure [])
    (tk : Takes ((cxOf CXg X.prog X.w X.K X.mg X.base Ng qg sg g cdg X.A X.stack s H Eg).tr pn xe) W) (hr : Room (k + 1) (X.A.deeper (envOfC qg sg s.heap.objs.size g cdg)))
    (hbody : ∀ (A : Around) (outer : List Env) (s : Shared) (H : Hp), Room k (A.deeper (lamEnv X scope s.heap.objs.size f c')) → PE (lamCx X A outer s H E scope f c') body tb)
    (hN : Ng[i]? = some a) (hv : Vis sg a) (hd : (a == ("__debug__" : Str)) = false := by decide) (hcd : (a == ("__classdict__" : Str)) = false := by decide) :
    PE ((cxOf CXg X.prog X.w X.K X.mg X.base Ng qg sg g cdg X.A X.stack s H Eg).tr pn xe) (.Call (.Name a p1) [] [] p2)
      (fun σZ HZ Q => σZ[i]? = some (some (.ref f)) ∧ HZ c' = some (CodeO c' (X.env.qual ++ "<lambda>")) ∧ (∀ cls d H', E cls d H' → W cls d σZ H') ∧ tb σ HZ Q) := by
  refine ⟨fun pinsZ sZ σZ HZ Q IZ h => ?_⟩
  obtain ⟨hs, hc, hW, ht⟩ := h
  refine wpAny_Call_Name_kw (thn ((pe_var (pos := p1) (i := i) hN hv hd hcd).run pinsZ sZ σZ HZ (fun v H1 => v = .ref f ∧ H1 = HZ) IZ ⟨.ref f, hs, rfl, rfl⟩) fun u s1 ⟨v, H1, I1, r1, q1⟩ => ?_)
  obtain ⟨ev, eH⟩ := q1
  subst ev
  rw [eH] at I1
  obtain rfl : u = Value.ref f := r1
  have of1 : s1.heap.get? f = some (PySem.W.kla_obj "<lambda>" (X.env.qual ++ "<lambda>") params body scope (cloFrom X.env.cells scope.names []) pm c' ctv) := I1.base.keep f _ hf hfn hfr (fun z => nomatch (show f ∈ ([] : List Addr) from z))
  refine PySem.W.callWith_F0 ⟨_, _, _, _, of1⟩ ?_
  have un : Un (frs X.stack) [] H HZ s.heap s1.heap := I1.base
  obtain ⟨⟨oc, vs, t, hoc, hdc, hvc⟩, _, _⟩ := I1.hok c' _ hc
  have rc : codeAny (model X.prog X.w) (X.A.deeper (envOfC qg sg s.heap.objs.size g cdg)) (.call (.ref f) ⟨[], []⟩) (CR (L2.CX X.prog X.w) (envOfC qg sg s.heap.objs.size g cdg :: X.stack) X.prog X.w HZ s1 Q E) s1 := by
    refine PySem.W.kla_callFunE hr.depth of1 rfl L.co L.gen rfl ⟨c', oc, vs, t, rfl, hoc, hdc, hvc⟩ ?_
    rw [hbind]
    refine wpAny_pure (wpAny_newFunctionEnv (fun y hy => (L.own y hy).2) (fun y hy => absurd hy (by simp)) (fun h₁ hns hsb => ⟨I1.nolimit.fresh _ hsb, ?_⟩) L.kind)
    show codeAny _ _ (.expr body (lamEnv X scope s1.heap.objs.size f c')) _ _
    have kp : ∀ b o, s1.heap.get? b = some o → h₁.get? b = some o := fun b o e => hsb.extBut b o (Nat.ne_of_lt (Heap.lt_size e)) (Heap.get?_push_of_some _ e)
    have J : Inv (lamCx X (X.A.deeper (envOfC qg sg s.heap.objs.size g cdg)) (envOfC qg sg s.heap.objs.size g cdg :: X.stack) s1 HZ E scope f c') [] σ HZ { s1 with heap := h₁, toks := s1.toks + ([] : List (Str × Value)).length } :=
      lam_start2 I L I1.env0 hr.hd un hns kp
    refine PySem.W.kla_codeExpr (wpAny_mono ((hbody _ _ s1 HZ (hr.deeper _)).run [] _ _ HZ Q J ht) (fun v s' hq => ?_) fun e s' hq => hq)
    obtain ⟨w', H', J', rv, q⟩ := hq
    exact ⟨w', H', J'.os, J'.bare, J'.base, J'.hok, rv, q⟩
  refine wpAny_call (codeAny_mono rc fun r s' hq => ?_)
  cases r with
  | error e => exact tk e s' (XE.of_call I1 (fun cls d H' h => hW cls d H' h) hq)
  | ok fl =>
    cases fl with
    | ret u => exact I1.after hq
    | next => exact False.elim hq
    | brk => exact False.elim hq
    | cont => exact False.elim hq
end
def Gives3 (X : Cx) (Ng : List Str) (x : Str) (sg : Scope) (g : Addr) (cdg : Value) (bg : List Stmt) (a : Str) (q : Str) (TT : (XK → Hp → VK → Prop) → (Hp → Prop) → V → Hp → VK → Prop) : Prop :=
  ∀ (f c' : Addr) (s : Shared) (H : Hp) (Q : VK) (v2 : V) (tl : XK → Hp → VK → Prop),
    (∀ (W : WX) (pn : List (Addr × Obj)) (xe : Value → Shared → Prop) (E : XK) (p1 p2 : Pos), Takes ((cxOf C8.CX0 X.prog X.w X.K X.mg X.base Ng x sg g cdg X.A X.stack s H C8.E0).tr pn xe) W →
      PE ((cxOf C8.CX0 X.prog X.w X.K X.mg X.base Ng x sg g cdg X.A X.stack s H C8.E0).tr pn xe) (.Call (.Name a p1) [] [] p2) (fun σZ HZ Q => σZ[0]? = some (some (.ref f)) ∧ HZ c' = some (CodeO c' q) ∧ (∀ cls d H', E cls d H' → W cls d σZ H') ∧ tl E HZ Q)) →
    H c' = some (CodeO c' q) → TT tl (fun H' => H' c' = some (CodeO c' q)) v2 H Q →
    ∃ t, PSs (cxOf C8.CX0 X.prog X.w X.K X.mg X.base Ng x sg g cdg X.A X.stack s H C8.E0).nox bg t ∧ t { nx := fun _ H' => Q .non H', rt := Q } (L2.start Ng [.ref f, v2]) H
section
variable {X : Cx}
theorem pe_lamcall3 {T : List (Addr × Str)} {TT : (XK → Hp → VK → Prop) → (Hp → Prop) → V → Hp → VK → Prop} {x a a2 : Str} {g c P : Addr} {k : Nat} {pg : Arguments} {bg : List Stmt} {sg : Scope} {dV kV doc pm cdv ct oc : Value} {an od : Option Addr} {osl : Array (Option Value)} {Ng : List Str}
    {params : Arguments} {body : Expr} {scope : Scope} {t : XK → TE} {p lpos pos : Pos} {e2 : Expr} {te : TE} (hg : Gl X x) (hm : X.mg x = some (.ref g)) (hk : PySem.W.keepIn X.K (.ref g) = true)
    (lk : X.K.lookup g = some ⟨oc, od, .func (PySem.W.fnOf x x pg bg sg dV kV doc pm an cdv ct), osl⟩) (hcg : PySem.W.codeIn X.K cdv x = true) (hb : L2.Binds X.K (PySem.W.fnOf x x pg bg sg dV kV doc pm an cdv ct) [a, a2] []) (Sg : FnScope Ng [a, a2] sg) (hNg : Ng[0]? = some a) (hva : Vis sg a)
    (hG : Gives3 X Ng x sg g cdv bg a (X.env.qual ++ "<lambda>") TT)
    (TB : TabB X.base X.mg c P) (hcode : X.env.code = .ref c) (hmT : (P, X.env.qual ++ "<lambda>") ∈ T) (hu : ∀ p ∈ T, p.1 = P → p.2 = X.env.qual ++ "<lambda>") (hr : Room (k + 2) X.A) (L : LamS X.env.scope scope) (hdef : defaultsOf params X.env = ([], []))
    (hbind : ∀ (q : Str) (cl : List (Str × Addr)) (pm cv ctv : Value), bindArgs (PySem.W.kla_fn "<lambda>" q params body scope cl pm cv ctv) ⟨[], []⟩ = pure [])
    (hbody : ∀ (A : Around) (outer : List Env) (s : Shared) (H : Hp) (E : XK) (f c' : Addr), Room k (A.deeper (lamEnv X scope s.heap.objs.size f c')) → PE (lamCx X A outer s H E scope f c') body (t E))
    (he2 : PA X [e2] (tCons te tNil))
    (hdb : (x == ("__debug__" : Str)) = false := by decide) (hd : (a == ("__debug__" : Str)) = false := by decide) (hcd : (a == ("__classdict__" : Str)) = false := by decide)
    (hs : starEach [.Lambda params body scope lpos, e2] X.env = (false, eval (.Lambda params body scope lpos) X.env) :: starEach [e2] X.env := by rfl) (hpl : (backTo pos (starEach [e2] X.env)).any (·.1) = false := by rfl) :
    PE X (.Call (.Name x p) [.Lambda params body scope lpos, e2] [] pos) (tLam2 T (X.env.qual ++ "<lambda>") TT t te) := by
  constructor
  intro pins s σ H Q I h
  obtain ⟨hT, h⟩ := h
  refine wpAny_Call_Name_kw (ld_glob I hg hm ?_ hdb)
  refine PySem.W.callWith_K (h₀ := X.base) I.ok.mod.kin hk ?_ hs hpl
  rw [hs]
  show wpAny _ _ (spliced ((false, eval (.Lambda params body scope lpos) X.env) :: backTo pos (starEach [e2] X.env))) _ _ s
  refine Calls.spliced_cons (lam_make2 I TB hcode hmT hu hT hdef (L.has I.ok) fun f c' pm' ctv H1 s' I1 eN T1 hf hfn hfr hco => ?_)
  have hcell : ∀ v, (PySem.W.kla_obj "<lambda>" (X.env.qual ++ "<lambda>") params body scope (cloFrom X.env.cells scope.names []) pm' c' ctv).data ≠ .cell v := fun v z => by cases z
  have fL : f ≠ X.env.locals := fun z => by
    obtain ⟨m, ⟨o, es, ep, e1, e2', _⟩, _⟩ := I1.loc
    rw [← z, hf] at e1
    have e3 := Option.some.inj e1
    rw [← e3] at e2'
    cases e2'
  have Ip : Inv X ((f, _) :: pins) σ H1 s' := I1.pins_of fun r hr => by
    rcases List.mem_cons.mp hr with e | e
    · subst e
      exact ⟨hf, hfn, fL, fun z => hfr (by
        rcases I1.ok.stk with e | ⟨e, _⟩
        · rw [e]; exact z
        · rw [e]
          show f ∈ (X.env :: X.outer).filterMap _
          rw [List.filterMap_cons]
          split
          · exact z
          · exact List.mem_cons_of_mem _ z), hcell⟩
    · exact I1.pin r (List.mem_append_right _ e)
  have h2 := h H1 c' eN T1 hco
  refine thn (he2.run pos _ s' σ H1 (fun vs H2 => ∃ v2, vs = [v2] ∧ H2 c' = some (CodeO c' (X.env.qual ++ "<lambda>")) ∧ TT (fun E H' Q' => t E σ H' Q') (fun H' => H' c' = some (CodeO c' (X.env.qual ++ "<lambda>"))) v2 H2 Q) Ip h2) ?_
  rintro us s2 ⟨vs, H2, I2, r2, v2, rfl, hc2, q2⟩
  obtain ⟨u2, rfl, ru2⟩ := vals1 r2
  refine ⟨I2.kIn, ?_⟩
  obtain ⟨hf2, hfn2, _⟩ := I2.pin (f, _) (List.mem_append_right _ List.mem_cons_self)
  have J2 : Inv X pins σ H2 s2 := ClX.unpin I2
  have rc : codeAny (model X.prog X.w) X.A (.call (.ref g) ⟨[.ref f, u2], []⟩) (CR C8.CX0 X.stack X.prog X.w H2 s2 Q C8.E0) s2 := by
    refine run_ofS (N := Ng) (ps := [a, a2]) (us := [.ref f, u2]) (vs := [.ref f, v2]) lk hcg Sg hr J2.env0 (hb s2 [.ref f, u2] J2.kIn rfl) (.cons rfl (.cons ru2 .nil)) rfl fun hr' => ?_
    obtain ⟨t', ht', hq'⟩ := hG f c' s2 H2 Q v2 (fun E H' Q' => t E σ H' Q') (fun W pn xe E p1 p2 tk => pe_act3 (i := 0) J2 L hf2 hfn2 hfr (hbind _ _ _ _ _) tk hr' (fun A outer s H hr2 => hbody A outer s H E f c' hr2) hNg hva hd hcd) hc2 q2
    exact ⟨t', ht'.nox, hq'⟩
  refine wpAny_call (codeAny_mono rc ?_)
  intro r s3 hq
  cases r with
  | error e => exact (show False from hq).elim
  | ok fl =>
    cases fl with
    | ret u => exact J2.after hq
    | next => exact False.elim hq
    | brk => exact False.elim hq
    | cont => exact False.elim hq
end
end LamX
end
section
set_option maxRecDepth 100000
set_option maxHeartbeats 4000000
namespace L2
open PySem PySem.Spec PyProof.Rows
/-! ### defs that make lambdas -/
section
variable {P : Program} {w : World} {K : PySem.W.Frag} {mg : Str → Option Value} {base : Heap} {CX : CXT} {k j : Nat} {x : Str} {ps N : List Str} {sp : Sp} {st : Stmt} {cc : Addr}
/-- a def that lets nothing out, its code object known -/
theorem Ok.defC (e : ∃ f fd, FnP K x st f fd ∧ mg x = some (.ref f) ∧ fd.code = .ref cc)
    (hb : ∀ (kV doc pm : Value) (an : Option Addr) (cdv ct : Value) (us : List Value), us.length = ps.length → bindArgs (PySem.W.fnOf x x (defArgs st) (defBody st) (defScope st) .none kV doc pm an cdv ct) ⟨us, []⟩ = pure (ps.zip us))
    (S : FnScope N ps (defScope st)) (len : ∀ vs H Q E, sp vs H Q E → vs.length = ps.length)
    (hbody : ∀ (f : Addr) (A : Around) (outer : List Env) (s : Shared) (H : Hp) (vs : List V) (Q : VK) (E : XK), Room k (A.deeper (envOfC x (defScope st) s.heap.objs.size f (.ref cc))) → sp vs H Q E →
      ∃ t, PSs (cxOf CX0 P w K mg base N x (defScope st) f (.ref cc) A outer s H E).nox (defBody st) t ∧ t { nx := fun _ H' => Q .non H', rt := Q } (start N vs) H) : Ok P w K mg base CX0 (k + 1) x ps sp := by
  obtain ⟨f, fd, F, g, hc⟩ := e
  refine ⟨f, fd, ?_, g, F.kp, F.bindsN hb⟩
  obtain ⟨oc, od, dV, kV, doc, pm, an, cdv, ct, osl, rfl, lk, hcd, _, _⟩ := F.ex
  obtain rfl : cdv = .ref cc := hc
  exact fn_of lk hcd S len fun A outer s H vs Q E hr hsp => by
    obtain ⟨t, h1, h2⟩ := hbody f A outer s H vs Q E hr hsp
    exact ⟨t, h1.nox, h2⟩
/-- a def of the top that asks that no repr is under way -/
structure OkG (P : Program) (w : World) (K : PySem.W.Frag) (mg : Str → Option Value) (base : Heap) (k : Nat) (x : Str) (ps : List Str) (sp : Sp) : Prop where
  ex : ∃ f fd, FnG P w K mg base k f fd ps sp ∧ mg x = some (.ref f) ∧ PySem.W.keepIn K (.ref f) = true ∧ Binds K fd ps []
theorem OkG.defC (e : ∃ f fd, FnP K x st f fd ∧ mg x = some (.ref f) ∧ fd.code = .ref cc)
    (hb : ∀ (kV doc pm : Value) (an : Option Addr) (cdv ct : Value) (us : List Value), us.length = ps.length → bindArgs (PySem.W.fnOf x x (defArgs st) (defBody st) (defScope st) .none kV doc pm an cdv ct) ⟨us, []⟩ = pure (ps.zip us))
    (S : FnScope N ps (defScope st)) (len : ∀ vs H Q E, sp vs H Q E → vs.length = ps.length)
    (hbody : ∀ (f : Addr) (A : Around) (outer : List Env) (s : Shared) (H : Hp) (vs : List V) (Q : VK), Room k (A.deeper (envOfC x (defScope st) s.heap.objs.size f (.ref cc))) → A.guards = some [] → sp vs H Q E0 →
      ∃ t, PSs (cxOf CX0 P w K mg base N x (defScope st) f (.ref cc) A outer s H E0).nox (defBody st) t ∧ t { nx := fun _ H' => Q .non H', rt := Q } (start N vs) H) : OkG P w K mg base (k + 1) x ps sp := by
  obtain ⟨f, fd, F, g, hc⟩ := e
  have B : Binds K fd ps [] := F.bindsN hb
  refine ⟨f, fd, ?_, g, F.kp, B⟩
  obtain ⟨oc, od, dV, kV, doc, pm, an, cdv, ct, osl, rfl, lk, hcd, _, _⟩ := F.ex
  obtain rfl : cdv = .ref cc := hc
  constructor
  · exact len
  · intro A outer s H args us vs Q hr hgd e0 hbt r hsp
    refine LamX.run_ofS lk hcd S hr e0 hbt r (len _ _ _ _ hsp) fun hr' => ?_
    obtain ⟨t, h, q⟩ := hbody f A outer s H vs Q hr' hgd hsp
    exact ⟨t, h.nox, q⟩
end
theorem pe_okG {X : Cx} {k : Nat} {x : Str} {ps : List Str} {sp : Sp} {p pos : Pos} {e : Expr} {es : List Expr} {t : TA} (O : OkG X.prog X.w X.K X.mg X.base k x ps sp) (hr : Room k X.A) (hgd : X.A.guards = some []) (hg : Gl X x) (ha : PA X (e :: es) t)
    (hdb : (x == ("__debug__" : Str)) = false := by decide) (he : starEach (e :: es) X.env = (false, eval e X.env) :: starEach es X.env := by rfl) (hpl : (backTo pos (starEach es X.env)).any (·.1) = false := by rfl) :
    PE X (.Call (.Name x p) (e :: es) [] pos) (tCallE sp t) := by
  obtain ⟨f, fd, F, hm, hk, hb⟩ := O.ex
  exact pe_callG F hr hgd hg hm hk hb ha hdb he hpl
end L2
namespace LamX
open PySem PySem.Spec PyProof.Rows L2
theorem Gives2.three {X : Cx} {Ng : List Str} {x : Str} {sg : Scope} {g : Addr} {cdg : Value} {bg : List Stmt} {a q : Str} {TT : (XK → Hp → VK → Prop) → (Hp → Prop) → V → Hp → VK → Prop} (h : Gives2 X Ng x sg g cdg bg a q TT) : Gives3 X Ng x sg g cdg bg a q TT := by
  intro f c' s H Q v2 tl hc hco hT
  exact h f c' s H Q v2 tl (fun W pn xe E p1 p2 tk hW => ⟨fun pins s' σ H' Q' I hq => (hc W pn xe E p1 p2 tk).run pins s' σ H' Q' I ⟨hq.1, hq.2.1, fun cls d H2 he => hW cls d _ H2 he, hq.2.2⟩⟩) hco hT
end LamX
end
section
set_option maxRecDepth 100000
set_option maxHeartbeats 4000000
namespace L2
open PySem PySem.Spec PyProof.Rows
section
variable {P : Program} {w : World} {K : PySem.W.Frag} {mg : Str → Option Value} {base : Heap}
abbrev stk (a b c : Int) : HO := .lst [.int a, .int b, .int c]
def Stk (H : Hp) (sa : Addr) : Prop := ∃ a b c, H sa = some (stk a b c)
theorem fmod_range (a : Int) {m : Int} (h : 0 < m) : 0 ≤ a.fmod m ∧ a.fmod m < m := by
  rw [Int.fmod_eq_emod_of_nonneg a (Int.le_of_lt h)]
  exact ⟨Int.emod_nonneg _ (by omega), Int.emod_lt_of_pos _ h⟩
def spDraw : Sp := fun vs H Q _ => ∃ (sa : Addr) (m : Int), vs = [.ref sa, .int m] ∧ 0 < m ∧ m < 1073741824 ∧ Stk H sa ∧ ∀ r a b c, 0 ≤ r → r < m → Q (.int r) (upd H sa (stk a b c))
def spStock (K : PySem.W.Frag) : Sp := fun vs H Q _ => ∃ (a : Addr) (ns : List Int) (at_ : Int), vs = [.ref a, .int at_] ∧ SqL K H a (ns.map V.int) ∧ ns.length ≤ 63 ∧ 0 ≤ at_ ∧ at_ ≤ 100 ∧
  ∀ p H', H p = none → Same H H' → Stk H' p → Q (.ref p) H'
theorem stk_upd {H : Hp} {sa : Addr} {a b c : Int} : Stk (upd H sa (stk a b c)) sa := ⟨a, b, c, upd_same⟩
theorem Stk.ne {H : Hp} {sa : Addr} (h : Stk H sa) : H sa ≠ none := by
  obtain ⟨a, b, c, h⟩ := h
  rw [h]
  exact fun z => by cases z
theorem Stk.but {H : Hp} {sa a : Addr} (h : Stk H sa) (n : sa ≠ a) {o : HO} : Stk (upd H a o) sa := by
  obtain ⟨x, y, z, h⟩ := h
  exact ⟨x, y, z, by rw [upd_ne n]; exact h⟩
theorem Stk.new {H : Hp} {sa a : Addr} (h : Stk H sa) (n : H a = none) {o : HO} : Stk (upd H a o) sa := h.but fun z => h.ne (z ▸ n)
theorem Stk.same {H H' : Hp} {sa : Addr} (h : Stk H sa) (e : Same H H') : Stk H' sa := by
  obtain ⟨x, y, z, h⟩ := h
  exact ⟨x, y, z, e _ _ h⟩
def Leaf (v w : V) : Prop := (∃ n, v = .int n ∧ w = .int n) ∨ (∃ s, v = .str s ∧ w = .str s)
def Comp (R : Hp → V → V → Prop) (H : Hp) (v w : V) : Prop := ∃ (a b : Addr) (xs ys : List V), v = .ref a ∧ w = .ref b ∧ ((H a = some (.lst xs) ∧ H b = some (.lst ys)) ∨ (H a = some (.tup xs) ∧ H b = some (.tup ys))) ∧ xs.length = ys.length ∧ ys.length ≤ 1000 ∧ ∀ (i : Nat) (x y : V), xs[i]? = some x → ys[i]? = some y → R H x y
def Mt : Nat → Hp → V → V → Prop
  | 0, _, v, w => Leaf v w
  | k + 1, H, v, w => Leaf v w ∨ Comp (Mt k) H v w
theorem Mt.same : ∀ {k : Nat} {H H' : Hp} {v w : V}, Same H H' → Mt k H v w → Mt k H' v w
  | 0, _, _, _, _, _, h => h
  | k + 1, _, _, _, _, e, .inl h => .inl h
  | k + 1, _, _, _, _, e, .inr ⟨a, b, xs, ys, e1, e2, h, hl, hz, hr⟩ => .inr ⟨a, b, xs, ys, e1, e2, h.imp (fun z => ⟨e _ _ z.1, e _ _ z.2⟩) (fun z => ⟨e _ _ z.1, e _ _ z.2⟩), hl, hz, fun i x y hx hy => Mt.same e (hr i x y hx hy)⟩
def spMt (R : Hp → V → V → Prop) : Sp := fun vs H Q _ => ∃ v w, vs = [v, w] ∧ R H v w ∧ ∀ H', Same H H' → Q (.bl true) H'
theorem k_ii : PySem.W.kitOne K (.type "int") (.type "int") = some true := kit_ty (by decide +kernel)
theorem k_ib : PySem.W.kitOne K (.type "int") (.type "bool") = some false := kit_ty (by decide +kernel)
theorem k_sb : PySem.W.kitOne K (.type "str") (.type "bool") = some false := kit_ty (by decide +kernel)
theorem k_si : PySem.W.kitOne K (.type "str") (.type "int") = some false := kit_ty (by decide +kernel)
theorem k_ss : PySem.W.kitOne K (.type "str") (.type "str") = some true := kit_ty (by decide +kernel)
theorem k_lb : PySem.W.kitOne K (.type "list") (.type "bool") = some false := kit_ty (by decide +kernel)
theorem k_li : PySem.W.kitOne K (.type "list") (.type "int") = some false := kit_ty (by decide +kernel)
theorem k_ls : PySem.W.kitOne K (.type "list") (.type "str") = some false := kit_ty (by decide +kernel)
theorem k_ld : PySem.W.kitOne K (.type "list") (.type "dict") = some false := kit_ty (by decide +kernel)
theorem k_lt : PySem.W.kitOne K (.type "list") (.type "tuple") = some false := kit_ty (by decide +kernel)
theorem k_ll : PySem.W.kitOne K (.type "list") (.type "list") = some true := kit_ty (by decide +kernel)
theorem k_tb : PySem.W.kitOne K (.type "tuple") (.type "bool") = some false := kit_ty (by decide +kernel)
theorem k_ti : PySem.W.kitOne K (.type "tuple") (.type "int") = some false := kit_ty (by decide +kernel)
theorem k_ts : PySem.W.kitOne K (.type "tuple") (.type "str") = some false := kit_ty (by decide +kernel)
theorem k_td : PySem.W.kitOne K (.type "tuple") (.type "dict") = some false := kit_ty (by decide +kernel)
theorem k_tt : PySem.W.kitOne K (.type "tuple") (.type "tuple") = some true := kit_ty (by decide +kernel)
theorem k_tl : PySem.W.kitOne K (.type "tuple") (.type "list") = some false := kit_ty (by decide +kernel)
theorem k_il : PySem.W.kitOne K (.type "int") (.type "list") = some false := kit_ty (by decide +kernel)
theorem k_it : PySem.W.kitOne K (.type "int") (.type "tuple") = some false := kit_ty (by decide +kernel)
theorem k_id : PySem.W.kitOne K (.type "int") (.type "dict") = some false := kit_ty (by decide +kernel)
theorem k_sl : PySem.W.kitOne K (.type "str") (.type "list") = some false := kit_ty (by decide +kernel)
theorem k_st : PySem.W.kitOne K (.type "str") (.type "tuple") = some false := kit_ty (by decide +kernel)
theorem k_sd : PySem.W.kitOne K (.type "str") (.type "dict") = some false := kit_ty (by decide +kernel)
theorem tx_int {H : Hp} (n : Int) : TyX K H (.int n) (.type "int") := .base (.int n)
theorem tx_str {H : Hp} (n : Str) : TyX K H (.str n) (.type "str") := .base (.str n)
theorem tx_lst {H : Hp} {a : Addr} {xs : List V} (h : H a = some (.lst xs)) : TyX K H (.ref a) (.type "list") := .base (.lst h)
theorem tx_tup {H : Hp} {a : Addr} {xs : List V} (h : H a = some (.tup xs)) : TyX K H (.ref a) (.type "tuple") := .base (.tup h)
def Leaf1 (v : V) : Prop := (∃ n, v = .int n) ∨ (∃ s, v = .str s)
theorem mt_ints {H : Hp} {a b : Addr} {ns : List Int} (hz : ns.length ≤ 1000) (ha : H a = some (.lst (ns.map V.int))) (hb : H b = some (.lst (ns.map V.int))) : Mt 1 H (.ref a) (.ref b) := by
  refine .inr ⟨a, b, _, _, rfl, rfl, .inl ⟨ha, hb⟩, rfl, by rw [ints_len]; exact hz, fun i x y hx hy => ?_⟩
  obtain ⟨n, _, rfl⟩ := ints_get hx
  rw [hx] at hy
  cases hy
  exact .inl ⟨n, rfl, rfl⟩
theorem new2 {H : Hp} {a : Addr} (o : HO) (h : H a = none) : Same H (upd H a o) ∧ upd H a o a = some o := ⟨same_new h, upd_same⟩
theorem pe_noway {X : Cx} {e : Expr} : PE X e (fun _ _ _ => False) := ⟨fun _ _ _ _ _ _ h => h.elim⟩
theorem ext_lst {H H' : Hp} {a : Addr} {xs : List V} (e : LamX.ExtN H H') (h : H a = some (.lst xs)) : H' a = some (.lst xs) := e _ _ h fun _ z => by cases z
theorem ext_tup {H H' : Hp} {a : Addr} {xs : List V} (e : LamX.ExtN H H') (h : H a = some (.tup xs)) : H' a = some (.tup xs) := e _ _ h fun _ z => by cases z
theorem ext_of {H H' : Hp} (e : Same H H') : LamX.ExtN H H' := fun b o h _ => e b o h
def Bx (sa : Addr) (H H' : Hp) : Prop := ∀ b o, H b = some o → (∀ ps, o ≠ .tbl ps) → b ≠ sa → H' b = some o
theorem ext_bx {sa : Addr} {H H1 H2 : Hp} (e : LamX.ExtN H H1) (n : H sa = none) (b : Bx sa H1 H2) : LamX.ExtN H H2 := fun c o h p => b c o (e c o h p) p (ne_of_none h n)
theorem ext_new {sa : Addr} {H H1 H1' H2 : Hp} (e : LamX.ExtN H H1) (n : H1 sa = none) (s : Same H1 H1') (b : Bx sa H1' H2) : LamX.ExtN H H2 := fun c o h p => b c o (s _ _ (e c o h p)) p (ne_of_none (e c o h p) n)
theorem ext_seq {K : PySem.W.Frag} {H H' : Hp} {a : Addr} {xs : List V} (e : LamX.ExtN H H') (h : SqL K H a xs) : SqL K H' a xs := by
  rcases h with (h | ⟨o, h⟩) | h
  · exact .inl (.inl (e _ _ h fun _ z => by cases z))
  · exact .inl (.inr ⟨o, e _ _ h fun _ z => by cases z⟩)
  · exact .inr h
theorem min2 (a b : Int) : (if b < a then b else a) = min a b := by omega
theorem max2 (a b : Int) : (if b > a then b else a) = max a b := by omega
theorem max1 (m : Int) : (if m > 1 then m else 1) = max 1 m := by omega
theorem Bx.of_but {sa : Addr} {H H' : Hp} (e : But sa H H') : Bx sa H H' := fun b o h _ n => e b o h n
theorem Bx.of_same {sa : Addr} {H H' : Hp} (e : Same H H') : Bx sa H H' := fun b o h _ _ => e b o h
theorem Bx.of_ext {sa : Addr} {H H' : Hp} (e : LamX.ExtN H H') : Bx sa H H' := fun b o h n _ => e b o h n
theorem Bx.trans {sa : Addr} {H H1 H2 : Hp} (a : Bx sa H H1) (b : Bx sa H1 H2) : Bx sa H H2 := fun c o h n m => b c o (a c o h n m) n m
theorem Bx.lst {sa : Addr} {H H' : Hp} {a : Addr} {xs : List V} (e : Bx sa H H') (n : a ≠ sa) (h : H a = some (.lst xs)) : H' a = some (.lst xs) := e _ _ h (fun _ z => by cases z) n
theorem Bx.tup {sa : Addr} {H H' : Hp} {a : Addr} {xs : List V} (e : Bx sa H H') (n : a ≠ sa) (h : H a = some (.tup xs)) : H' a = some (.tup xs) := e _ _ h (fun _ z => by cases z) n
theorem tabs_but {sa : Addr} {H H' : Hp} {Tb : List (Addr × Str)} (h : LamX.Tabs Tb H) (hs : Stk H sa) (e : But sa H H') : LamX.Tabs Tb H' := fun p hp => by
  obtain ⟨ps, hP, ht, hc⟩ := h p hp
  have hne : p.1 ≠ sa := fun z => by
    obtain ⟨x, y, w, hs⟩ := hs
    rw [z, hs] at hP
    cases hP
  exact ⟨ps, e _ _ hP hne, ht, fun pos cv q => by
    obtain ⟨c, h1, h2⟩ := hc pos cv q
    have hc : c ≠ sa := fun z => by
      obtain ⟨x, y, w, hs⟩ := hs
      rw [z, hs] at h2
      cases h2
    exact ⟨c, h1, e _ _ h2 hc⟩⟩
def PairT (H : Hp) (x : V) (c : Int × Int) : Prop := ∃ t, x = .ref t ∧ H t = some (.tup [.int c.1, .int c.2])
theorem ne_stk {H : Hp} {sa t : Addr} {o : HO} (hs : Stk H sa) (h : H t = some o) (n : ∀ xs, o ≠ .lst xs) : t ≠ sa := fun z => by
  obtain ⟨x, y, w, hs⟩ := hs
  rw [z, hs] at h
  exact n _ (Option.some.inj h).symm
theorem PairT.bx {sa : Addr} {H H' : Hp} (hs : Stk H sa) (e : Bx sa H H') {x : V} {c : Int × Int} (h : PairT H x c) : PairT H' x c := by
  obtain ⟨t, rfl, h⟩ := h
  exact ⟨t, rfl, e.tup (ne_stk hs h fun _ z => by cases z) h⟩
theorem PairT.same {H H' : Hp} (e : Same H H') {x : V} {c : Int × Int} (h : PairT H x c) : PairT H' x c := by
  obtain ⟨t, rfl, h⟩ := h
  exact ⟨t, rfl, e _ _ h⟩
theorem PairT.mut {H : Hp} {l : Addr} {xs : List V} {o : HO} (hl : H l = some (.lst xs)) {x : V} {c : Int × Int} (h : PairT H x c) : PairT (upd H l o) x c := by
  obtain ⟨t, rfl, h⟩ := h
  refine ⟨t, rfl, ?_⟩
  rw [upd_ne (fun z => by rw [z, hl] at h; cases h)]
  exact h
theorem PairT.r {K : PySem.W.Frag} {H : Hp} {x : V} {c : Int × Int} (h : PairT H x c) : PairR K H x c := by
  obtain ⟨t, rfl, h⟩ := h
  exact ⟨t, rfl, .inl (SqT.of h)⟩
theorem paired_mem {α β : Type} {R : α → β → Prop} {xs : List α} {ys : List β} (h : Paired R xs ys) {x : α} (hx : x ∈ xs) : ∃ y ∈ ys, R x y := by
  induction h with
  | nil => cases hx
  | cons a _ ih =>
    rcases List.mem_cons.mp hx with rfl | hx
    · exact ⟨_, List.mem_cons_self, a⟩
    · obtain ⟨y, hy, r⟩ := ih hx
      exact ⟨y, List.mem_cons_of_mem _ hy, r⟩
theorem paired_build {α β : Type} {R : α → β → Prop} {S : β → Prop} : ∀ (xs : List α), (∀ x ∈ xs, ∃ y, R x y ∧ S y) → ∃ ys, Paired R xs ys ∧ ∀ y ∈ ys, S y
  | [], _ => ⟨[], .nil, fun y hy => by cases hy⟩
  | x :: t, h => by
    obtain ⟨y, r, s⟩ := h x List.mem_cons_self
    obtain ⟨ys, rs, ss⟩ := paired_build t fun z hz => h z (List.mem_cons_of_mem _ hz)
    refine ⟨y :: ys, .cons r rs, fun z hz => ?_⟩
    rcases List.mem_cons.mp hz with rfl | hz
    · exact s
    · exact ss z hz
theorem paired_drop {α β : Type} {R : α → β → Prop} : ∀ (k : Nat) {xs : List α} {ys : List β}, Paired R xs ys → Paired R (xs.drop k) (ys.drop k)
  | 0, _, _, h => h
  | k + 1, _, _, .nil => .nil
  | k + 1, _, _, .cons a r => paired_drop k r
theorem paired_take {α β : Type} {R : α → β → Prop} : ∀ (k : Nat) {xs : List α} {ys : List β}, Paired R xs ys → Paired R (xs.take k) (ys.take k)
  | 0, _, _, _ => .nil
  | k + 1, _, _, .nil => .nil
  | k + 1, _, _, .cons a r => .cons a (paired_take k r)
def Er (C : Addr) (fl : Str) (v : V) (H : Hp) : XK := fun cls d H' => cls = .ref C ∧ ∃ d', d = some d' ∧ Same H H' ∧ H' d' = some (.xd [(fl, v)])
theorem rz_er {C : Addr} {fl : Str} {v : V} {H H1 : Hp} (e : Same H H1) : Rz (Er C fl v H) H1 C fl v := fun d H' s hd => ⟨rfl, d, rfl, e.trans s, hd⟩
theorem paired_rep {α β : Type} {R : α → β → Prop} {x : α} {c : β} (h : R x c) : ∀ n, Paired R (List.replicate n [x]).flatten (List.replicate n c)
  | 0 => .nil
  | n + 1 => .cons h (paired_rep h n)
theorem rep_ints (n : Nat) (z : Int) : (List.replicate n [V.int z]).flatten = (List.replicate n z).map V.int := by
  induction n with
  | zero => rfl
  | succ n ih => rw [List.replicate_succ, List.flatten_cons, ih]; rfl
theorem rep_len {α : Type} (n : Nat) (x : α) : (List.replicate n [x]).flatten.length = n := by
  induction n with
  | zero => rfl
  | succ n ih => rw [List.replicate_succ, List.flatten_cons, List.length_append, ih]; simp; omega
end
end L2
end
section
set_option maxRecDepth 100000
set_option maxHeartbeats 4000000
namespace L2
open PySem PySem.Spec PyProof.Rows
/-! ### methods and own classes by name -/
structure OkM (P : Program) (w : World) (K : PySem.W.Frag) (mg : Str → Option Value) (base : Heap) (CX : CXT) (k : Nat) (C : Addr) (m : Str) (ps : List Str) (sp : Sp) : Prop where
  ex : ∃ f fd, FnOk P w K mg base CX k f fd ps sp ∧ Meth K C m f ∧ Binds K fd ps []
structure OkK (P : Program) (w : World) (K : PySem.W.Frag) (mg : Str → Option Value) (base : Heap) (CX : CXT) (k : Nat) (x : Str) (C : Addr) (ps : List Str) (sp : Sp) : Prop where
  ex : ∃ f fd, FnOk P w K mg base CX k f fd ps sp ∧ Mk K C f ∧ mg x = some (.ref C) ∧ Binds K fd ps []
section
variable {X : Cx} {CX : CXT} {k : Nat} {C : Addr} {x m : Str} {ps : List Str} {sp : Sp} {E : XK} {p pos apos : Pos} {o e : Expr} {es : List Expr} {ta : TE} {t : TA}
theorem pe_okM {pl : Sem Bool} (O : OkM X.prog X.w X.K X.mg X.base CX k C m ps sp) (c : Cls X.K C) (he : PE X o ta) (hr : Room k X.A) (hx : Passes CX X E) (ha : PA X (e :: es) t)
    (hst : starEach (e :: es) X.env = (false, eval e X.env) :: starEach es X.env := by rfl) (hpl : (backTo pos (starEach es X.env)).any (·.1) = false := by rfl)
    (ht : eval (.Call (.Attribute o m apos) (e :: es) [] pos) X.env = (do
      let ov ← eval o X.env
      standAt apos.atName
      let (f, first) ← holding [ov] (getMethod ov m pl)
      callWith pos f first (backTo pos (starEach (e :: es) X.env)) (backToKw pos (keywordEach [] X.env))) := by rfl) : PE X (.Call (.Attribute o m apos) (e :: es) [] pos) (tMeth C m sp [] E ta t) := by
  obtain ⟨f, fd, F, M, B⟩ := O.ex
  exact pe_meth (pl := pl) he c M F hr B .nil hx ha hst hpl ht
theorem pe_okM0 {pl : Sem Bool} (O : OkM X.prog X.w X.K X.mg X.base CX k C m ps sp) (c : Cls X.K C) (he : PE X o ta) (hr : Room k X.A) (hx : Passes CX X E)
    (ht : eval (.Call (.Attribute o m apos) [] [] pos) X.env = (do
      let ov ← eval o X.env
      standAt apos.atName
      let (f, first) ← holding [ov] (getMethod ov m pl)
      callWith pos f first (backTo pos (starEach [] X.env)) (backToKw pos (keywordEach [] X.env))) := by rfl) : PE X (.Call (.Attribute o m apos) [] [] pos) (tMeth C m sp [] E ta tNil) := by
  obtain ⟨f, fd, F, M, B⟩ := O.ex
  exact pe_meth0 (pl := pl) he c M F hr B .nil hx ht
theorem pe_okK (O : OkK X.prog X.w X.K X.mg X.base CX k x C ps sp) (hr : Room (k + 1) X.A) (hg : Gl X x) (hx : Passes CX X E) (ha : PA X (e :: es) t) (hdb : (x == ("__debug__" : Str)) = false := by decide)
    (he : starEach (e :: es) X.env = (false, eval e X.env) :: starEach es X.env := by rfl) (hpl : (backTo pos (starEach es X.env)).any (·.1) = false := by rfl) : PE X (.Call (.Name x p) (e :: es) [] pos) (tMake C sp [] E t) := by
  obtain ⟨f, fd, F, M, hm, B⟩ := O.ex
  exact pe_make M F hr hg hm B .nil hx ha hdb he hpl
end
section
variable {P : Program} {w : World} {K : PySem.W.Frag} {mg : Str → Option Value} {base : Heap} {k : Nat} {C f : Addr} {m q x : Str} {ps N : List Str} {sp : Sp} {st : Stmt}
theorem OkM.def0 (e : ∃ fd, FnM K m q st f fd) (M : Meth K C m f)
    (hb : ∀ (kV doc pm : Value) (an : Option Addr) (cdv ct : Value) (us : List Value), us.length = ps.length → bindArgs (PySem.W.fnOf m q (defArgs st) (defBody st) (defScope st) .none kV doc pm an cdv ct) ⟨us, []⟩ = pure (ps.zip us))
    (S : FnScope N ps (defScope st)) (len : ∀ vs H Q E, sp vs H Q E → vs.length = ps.length)
    (hbody : ∀ (cdv : Value) (A : Around) (outer : List Env) (s : Shared) (H : Hp) (vs : List V) (Q : VK) (E : XK), Room k (A.deeper (envOfC q (defScope st) s.heap.objs.size f cdv)) → sp vs H Q E →
      ∃ t, PSs (cxOf CX0 P w K mg base N q (defScope st) f cdv A outer s H E).nox (defBody st) t ∧ t { nx := fun _ H' => Q .non H', rt := Q } (start N vs) H) : OkM P w K mg base CX0 (k + 1) C m ps sp := by
  obtain ⟨fd, F⟩ := e
  refine ⟨f, fd, F.ok S len fun cdv A outer s H vs Q E hr h => ?_, M, F.bindsN hb⟩
  obtain ⟨t, h1, h2⟩ := hbody cdv A outer s H vs Q E hr h
  exact ⟨t, h1.nox, h2⟩
theorem OkM.defX (e : ∃ fd, FnM K m q st f fd) (M : Meth K C m f)
    (hb : ∀ (kV doc pm : Value) (an : Option Addr) (cdv ct : Value) (us : List Value), us.length = ps.length → bindArgs (PySem.W.fnOf m q (defArgs st) (defBody st) (defScope st) .none kV doc pm an cdv ct) ⟨us, []⟩ = pure (ps.zip us))
    (S : FnScope N ps (defScope st)) (len : ∀ vs H Q E, sp vs H Q E → vs.length = ps.length)
    (hbody : ∀ (cdv : Value) (A : Around) (outer : List Env) (s : Shared) (H : Hp) (vs : List V) (Q : VK) (E : XK), Room k (A.deeper (envOfC q (defScope st) s.heap.objs.size f cdv)) → sp vs H Q E →
      Takes (cxOf (L2.CX P w) P w K mg base N q (defScope st) f cdv A outer s H E) (fun cls d _ H => E cls d H) →
      ∃ t, PSs (cxOf (L2.CX P w) P w K mg base N q (defScope st) f cdv A outer s H E) (defBody st) t ∧ t { nx := fun _ H' => Q .non H', rt := Q } (start N vs) H) : OkM P w K mg base (L2.CX P w) (k + 1) C m ps sp := by
  obtain ⟨fd, F⟩ := e
  exact ⟨f, fd, F.ok S len fun cdv A outer s H vs Q E hr h => hbody cdv A outer s H vs Q E hr h (takes_of rfl rfl rfl rfl), M, F.bindsN hb⟩
theorem OkK.defX (e : ∃ fd, FnM K m q st f fd) (M : Mk K C f) (g : mg x = some (.ref C))
    (hb : ∀ (kV doc pm : Value) (an : Option Addr) (cdv ct : Value) (us : List Value), us.length = ps.length → bindArgs (PySem.W.fnOf m q (defArgs st) (defBody st) (defScope st) .none kV doc pm an cdv ct) ⟨us, []⟩ = pure (ps.zip us))
    (S : FnScope N ps (defScope st)) (len : ∀ vs H Q E, sp vs H Q E → vs.length = ps.length)
    (hbody : ∀ (cdv : Value) (A : Around) (outer : List Env) (s : Shared) (H : Hp) (vs : List V) (Q : VK) (E : XK), Room k (A.deeper (envOfC q (defScope st) s.heap.objs.size f cdv)) → sp vs H Q E →
      Takes (cxOf (L2.CX P w) P w K mg base N q (defScope st) f cdv A outer s H E) (fun cls d _ H => E cls d H) →
      ∃ t, PSs (cxOf (L2.CX P w) P w K mg base N q (defScope st) f cdv A outer s H E) (defBody st) t ∧ t { nx := fun _ H' => Q .non H', rt := Q } (start N vs) H) : OkK P w K mg base (L2.CX P w) (k + 1) x C ps sp := by
  obtain ⟨fd, F⟩ := e
  exact ⟨f, fd, F.ok S len fun cdv A outer s H vs Q E hr h => hbody cdv A outer s H vs Q E hr h (takes_of rfl rfl rfl rfl), M, g, F.bindsN hb⟩
end
end L2
end
section
set_option maxRecDepth 100000
set_option maxHeartbeats 4000000
namespace K04
open PySem PySem.Spec PyProof.Rows L2
theorem lim_days : (("days" : Str), He.Dv.int 24) ∈ limits := List.mem_of_getElem? (i := 0) rfl
theorem lim_seeds : (("seeds" : Str), He.Dv.int 120) ∈ limits := List.mem_of_getElem? (i := 3) rfl
section
variable {P : Program} {w : World} {K : PySem.W.Frag} {mg : Str → Option Value} {base : Heap}
abbrev cTM (K : PySem.W.Frag) : Addr := He.ga K "TooMany"
abbrev cBG (K : PySem.W.Frag) : Addr := He.ga K "BadGarden"
abbrev cBD (K : PySem.W.Frag) : Addr := He.ga K "BadDay"
abbrev cG (K : PySem.W.Frag) : Addr := He.ga K "Garden"
theorem x_TooMany (T : Txt w K mg) : XOk P w K mg base 1 "TooMany" (cTM K) ["self", "what"] (spInit (cTM K) "what") := by
  obtain ⟨fd, F⟩ := fi_TooMany T
  refine ⟨_, fd, xt_TooMany T, F.ok (CX := CX0) sc_TooMany___init__ (fun vs H Q E h => ?_) (fun cdv A outer s H vs Q E hr h => ?_), g_TooMany T, F.bindsN (fun _ _ _ _ _ _ us hl => match us, hl with | [_, _], _ => rfl)⟩
  · obtain ⟨a, v, rfl, _⟩ := h
    rfl
  · obtain ⟨a, v, rfl, ha, k⟩ := h
    refine ⟨_, PSs.nox (pss_cons (ps_expr (pe_seinit (se T) rfl (g_SeenError T) (pa_cons (pv 0) (pa_cons pe_str pa_nil))))
      (pss_one (ps_ost (pv 0) (pv 1)))), ?_⟩
    refine ⟨_, rfl, a, cTM K, [.str _], rfl, (by show 1 ≤ 1000; decide), (xt_TooMany T).oex, ha, ?_⟩
    exact ⟨_, rfl, _, rfl, a, cTM K, rfl, (xt_TooMany T).oex, xn_TooMany_what T, .inl ⟨ha, fun dx hd hne => k dx hd hne⟩⟩
theorem x_BadGarden (T : Txt w K mg) : XOk P w K mg base 1 "BadGarden" (cBG K) ["self", "row"] (spInit (cBG K) "row") := by
  obtain ⟨fd, F⟩ := fi_BadGarden T
  refine ⟨_, fd, xt_BadGarden T, F.ok (CX := CX0) sc_BadGarden___init__ (fun vs H Q E h => ?_) (fun cdv A outer s H vs Q E hr h => ?_), g_BadGarden T, F.bindsN (fun _ _ _ _ _ _ us hl => match us, hl with | [_, _], _ => rfl)⟩
  · obtain ⟨a, v, rfl, _⟩ := h
    rfl
  · obtain ⟨a, v, rfl, ha, k⟩ := h
    refine ⟨_, PSs.nox (pss_cons (ps_expr (pe_seinit (se T) rfl (g_SeenError T) (pa_cons (pv 0) (pa_cons pe_str pa_nil))))
      (pss_one (ps_ost (pv 0) (pv 1)))), ?_⟩
    refine ⟨_, rfl, a, cBG K, [.str _], rfl, (by show 1 ≤ 1000; decide), (xt_BadGarden T).oex, ha, ?_⟩
    exact ⟨_, rfl, _, rfl, a, cBG K, rfl, (xt_BadGarden T).oex, xn_BadGarden_row T, .inl ⟨ha, fun dx hd hne => k dx hd hne⟩⟩
theorem x_BadDay (T : Txt w K mg) : XOk P w K mg base 1 "BadDay" (cBD K) ["self", "day"] (spInit (cBD K) "day") := by
  obtain ⟨fd, F⟩ := fi_BadDay T
  refine ⟨_, fd, xt_BadDay T, F.ok (CX := CX0) sc_BadDay___init__ (fun vs H Q E h => ?_) (fun cdv A outer s H vs Q E hr h => ?_), g_BadDay T, F.bindsN (fun _ _ _ _ _ _ us hl => match us, hl with | [_, _], _ => rfl)⟩
  · obtain ⟨a, v, rfl, _⟩ := h
    rfl
  · obtain ⟨a, v, rfl, ha, k⟩ := h
    refine ⟨_, PSs.nox (pss_cons (ps_expr (pe_seinit (se T) rfl (g_SeenError T) (pa_cons (pv 0) (pa_cons pe_str pa_nil))))
      (pss_one (ps_ost (pv 0) (pv 1)))), ?_⟩
    refine ⟨_, rfl, a, cBD K, [.str _], rfl, (by show 1 ≤ 1000; decide), (xt_BadDay T).oex, ha, ?_⟩
    exact ⟨_, rfl, _, rfl, a, cBD K, rfl, (xt_BadDay T).oex, xn_BadDay_day T, .inl ⟨ha, fun dx hd hne => k dx hd hne⟩⟩
def spCheck (K : PySem.W.Frag) : Sp := fun vs H Q E => ∃ (z : Str) (n m : Int), vs = [.str z, .int n] ∧ (z, He.Dv.int m) ∈ limits ∧ (n ≤ m → Q .non H) ∧ (m < n → Rz E H (cTM K) "what" (.str z))
theorem ok_check (T : Txt w K mg) : Ok P w K mg base (L2.CX P w) 4 "check" ["what", "number"] (spCheck K) := by
  refine Ok.defX (f_check T) (fun _ _ _ _ _ _ us hl => match us, hl with | [_, _], _ => rfl) sc_check (fun vs H Q E h => ?_) (fun f cdv A outer s H vs Q E hr h tk => ?_)
  · obtain ⟨z, n, m, rfl, _⟩ := h
    rfl
  · obtain ⟨z, n, m, rfl, hz, k1, k2⟩ := h
    refine ⟨_, (pss_one (ps_if (pt_cmpR op_gt (pv 1) (pe_ix ix_kdict (pe_glob (v := .ref _) rfl (g_LIMITS T) rfl) (pv 0) (fun _ _ => rfl)) (nomark _)) (pss_one (ps_raise rfl tk (pmk_x (x_TooMany T) (hr.mono (by first | decide | omega)) rfl (pa_cons (pv 0) pa_nil)))) pss_nil)), ?_⟩
    refine ⟨_, rfl, _, rfl, _, z, .int m, rfl, rfl, lim T hz, _, _, rfl, rfl, _, rfl, ?_⟩
    refine ite2 (fun c => ?_) (fun c => ?_)
    · exact ⟨_, rfl, mko ((k2 (of_decide_eq_true c)).at (Same.refl H))⟩
    · exact k1 (by simpa using c)
/-- is the day between; else BadDay of it -/
def spDay (K : PySem.W.Frag) : Sp := fun vs H Q E => ∃ (d a b : Int), vs = [.int d, .int a, .int b] ∧ (a ≤ d → d ≤ b → Q .non H) ∧ (¬ (a ≤ d ∧ d ≤ b) → Rz E H (cBD K) "day" (.int d))
theorem ok_check_day (T : Txt w K mg) : Ok P w K mg base (L2.CX P w) 4 "check_day" ["day", "first", "days"] (spDay K) := by
  refine Ok.defX (f_check_day T) (fun _ _ _ _ _ _ us hl => match us, hl with | [_, _, _], _ => rfl) sc_check_day (fun vs H Q E h => ?_) (fun f cdv A outer s H vs Q E hr h tk => ?_)
  · obtain ⟨d, a, b, rfl, _⟩ := h
    rfl
  · obtain ⟨d, a, b, rfl, k1, k2⟩ := h
    refine ⟨_, (pss_one (ps_if (PW.pt (pw_or (pt_cmpR op_lt (pv 0) (pv 1) (nomark _)) (pw_or1 (pt_cmpR op_gt (pv 0) (pv 2) (nomark _))))) (pss_one (ps_raise rfl tk (pmk_x (x_BadDay T) (hr.mono (by first | decide | omega)) rfl (pa_cons (pv 0) pa_nil)))) pss_nil)), ?_⟩
    refine ⟨_, rfl, _, rfl, _, _, rfl, rfl, _, rfl, ?_⟩
    cases q1 : decide (d < a) with
    | true => exact ⟨_, rfl, mko ((k2 (by have := of_decide_eq_true q1; omega)).at (Same.refl H))⟩
    | false =>
      refine ⟨_, rfl, _, rfl, _, _, rfl, rfl, _, rfl, ?_⟩
      refine ite2 (fun c => ?_) (fun c => ?_)
      · exact ⟨_, rfl, mko ((k2 (by have := of_decide_eq_true c; omega)).at (Same.refl H))⟩
      · exact k1 (by have := of_decide_eq_false q1; omega) (Int.not_lt.mp fun z => c (decide_eq_true z))
def badS (d a b : Int) : Option Int := if ¬ (0 ≤ a ∧ a ≤ d) then some a else if ¬ (0 ≤ b ∧ b ≤ d) then some b else if b < a then some b else none
def spStretch (K : PySem.W.Frag) : Sp := fun vs H Q E => ∃ (a b d : Int), vs = [.int a, .int b, .int d] ∧ (badS d a b = none → Q .non H) ∧ (∀ x, badS d a b = some x → Rz E H (cBD K) "day" (.int x))
theorem ok_check_stretch (T : Txt w K mg) : Ok P w K mg base (L2.CX P w) 5 "check_stretch" ["a", "b", "days"] (spStretch K) := by
  refine Ok.defX (f_check_stretch T) (fun _ _ _ _ _ _ us hl => match us, hl with | [_, _, _], _ => rfl) sc_check_stretch (fun vs H Q E h => ?_) (fun f cdv A outer s H vs Q E hr h tk => ?_)
  · obtain ⟨a, b, d, rfl, _⟩ := h
    rfl
  · obtain ⟨a, b, d, rfl, k1, k2⟩ := h
    refine ⟨_, (pss_cons (ps_expr (pe_okS (ok_check_day T) (hr.mono (by first | decide | omega)) rfl (fun σ => passAt tk σ) (pa_cons (pv 0) (pa_cons pe_int (pa_cons (pv 2) pa_nil)))))
      (pss_cons (ps_expr (pe_okS (ok_check_day T) (hr.mono (by first | decide | omega)) rfl (fun σ => passAt tk σ) (pa_cons (pv 1) (pa_cons pe_int (pa_cons (pv 2) pa_nil)))))
      (pss_one (ps_if (pt_cmpR op_lt (pv 1) (pv 0) (nomark _)) (pss_one (ps_raise rfl tk (pmk_x (x_BadDay T) (hr.mono (by first | decide | omega)) rfl (pa_cons (pv 1) pa_nil)))) pss_nil)))), ?_⟩
    refine ⟨_, rfl, _, rfl, a, 0, d, rfl, fun h1 h2 => ?_, fun h => k2 a (by unfold badS; rw [if_pos h])⟩
    refine ⟨_, rfl, _, rfl, b, 0, d, rfl, fun h3 h4 => ?_, fun h => k2 b (by unfold badS; rw [if_neg (by omega), if_pos h])⟩
    refine ⟨_, rfl, _, rfl, _, _, rfl, rfl, _, rfl, ?_⟩
    refine ite2 (fun c => ?_) (fun c => ?_)
    · exact ⟨_, rfl, mko ((k2 b (by unfold badS; rw [if_neg (by omega), if_neg (by omega), if_pos (of_decide_eq_true c)])).at (Same.refl H))⟩
    · exact k1 (by unfold badS; rw [if_neg (by omega), if_neg (by omega), if_neg (fun z => c (decide_eq_true z))])
end
end K04
end
section
set_option maxRecDepth 100000
set_option maxHeartbeats 4000000
namespace K04
open PySem PySem.Spec PyProof.Rows L2
section
variable {P : Program} {w : World} {K : PySem.W.Frag} {mg : Str → Option Value} {base : Heap}
theorem ok__law_draw (T : Txt w K mg) : Ok P w K mg base CX0 1 "_law_draw" ["stock", "many"] spDraw := by
  refine Ok.def0 (f__law_draw T) (fun _ _ _ _ _ _ us hl => match us, hl with | [_, _], _ => rfl) sc__law_draw (fun vs H Q E h => ?_) (fun f cdv A outer s H vs Q E hr h => ?_)
  · obtain ⟨sa, m, rfl, _⟩ := h
    rfl
  · obtain ⟨sa, m, rfl, h0, h1, ⟨a, b, c, hs⟩, k⟩ := h
    have hm : m ≠ 0 := by omega
    refine ⟨_, (pss_cons (ps_if (pt_cmpR op_gt (pe_ix (ix_listK (K := K) rfl) (pv 0) pe_int (fun _ _ => rfl)) pe_int (nomark _)) (pss_cons (ps_set (i := 2) sc__law_draw.nd rfl (by first | exact Or.inl rfl | exact Or.inr rfl) (pe_op op_modN (pe_callTy call_int1 rfl (n_int T) (by decide +kernel) (pa_cons (pe_ix (ix_listK (K := K) rfl) (pv 0) pe_int (fun _ _ => rfl)) pa_nil)) (pv 1)))
      (pss_cons (ps_asg (pe_op op_fdivN (pe_ix (ix_listK (K := K) rfl) (pv 0) pe_int (fun _ _ => rfl)) (pv 1)) (pg_sub (pv 0) pe_int set_list))
      (pss_one (ps_ret (pv 2))))) pss_nil)
      (pss_cons (ps_augS (pv 0) pe_int (get_listK (K := K) rfl) pe_int ip_add set_list)
      (pss_cons (ps_asg (pe_op op_modN (pe_callTy call_int1 rfl (n_int T) (by decide +kernel) (pa_cons (pe_op op_add (pe_op op_mul (pe_ix (ix_listK (K := K) rfl) (pv 0) pe_int (fun _ _ => rfl)) pe_int) (pe_op op_mul (pe_ix (ix_listK (K := K) rfl) (pv 0) pe_int (fun _ _ => rfl)) pe_int)) pa_nil)) pe_int) (pg_sub (pv 0) pe_int set_list))
      (pss_one (ps_ret (pe_op op_modN (pe_op op_fdivN (pe_op op_modN (pe_callTy call_int1 rfl (n_int T) (by decide +kernel) (pa_cons (pe_op op_add (pe_op op_mul (pe_ix (ix_listK (K := K) rfl) (pv 0) pe_int (fun _ _ => rfl)) pe_int) (pe_op op_mul (pe_ix (ix_listK (K := K) rfl) (pv 0) pe_int (fun _ _ => rfl)) pe_int)) pa_nil)) pe_int) pe_int) (pv 1))))))), ?_⟩
    refine ⟨_, rfl, sa, _, 0, _, rfl, rfl, SqL.of hs, rfl, _, _, rfl, rfl, _, rfl, ?_⟩
    refine ite2 (fun c1 => ?_) (fun c1 => ?_)
    · refine ⟨_, rfl, sa, _, 0, _, rfl, rfl, SqL.of hs, rfl, .inl ⟨_, rfl, _, rfl, _, _, rfl, rfl, hm, ?_⟩⟩
      refine ⟨_, rfl, sa, _, 0, _, rfl, rfl, SqL.of hs, rfl, _, rfl, _, _, rfl, rfl, ⟨hm, by omega⟩, _, rfl, sa, _, 0, 0, rfl, rfl, hs, rfl, ?_⟩
      refine ⟨_, rfl, k _ _ _ _ (fmod_range a h0).1 (fmod_range a h0).2⟩
    · refine ⟨_, rfl, sa, _, 2, _, rfl, rfl, SqL.of hs, rfl, _, _, rfl, rfl, sa, _, 2, 2, rfl, rfl, hs, rfl, ?_⟩
      refine ⟨_, rfl, sa, _, 1, _, rfl, rfl, SqL.of upd_same, rfl, _, _, rfl, rfl, .inr (by decide), _, rfl, sa, _, 2, _, rfl, rfl, SqL.of upd_same, rfl, _, _, rfl, rfl, .inr (by decide), _, _, rfl, rfl, .inl ⟨_, rfl, _, _, rfl, rfl, (by show (2147483647 : Int) ≠ 0; decide), _, rfl, sa, _, 1, 1, rfl, rfl, upd_same, rfl, ?_⟩⟩
      refine ⟨_, rfl, sa, _, 1, _, rfl, rfl, SqL.of upd_same, rfl, _, _, rfl, rfl, .inr (by decide), _, rfl, sa, _, 2, _, rfl, rfl, SqL.of upd_same, rfl, _, _, rfl, rfl, .inr (by decide), _, _, rfl, rfl, .inl ⟨_, rfl, _, _, rfl, rfl, (by show (2147483629 : Int) ≠ 0; decide), _, _, rfl, rfl, ⟨by decide, by decide⟩, _, rfl, _, _, rfl, rfl, hm, ?_⟩⟩
      rw [upd_upd]
      exact k _ _ _ _ (fmod_range _ h0).1 (fmod_range _ h0).2
theorem ok__law_stock (T : Txt w K mg) : Ok P w K mg base CX0 1 "_law_stock" ["script", "at"] (spStock K) := by
  refine Ok.def0 (f__law_stock T) (fun _ _ _ _ _ _ us hl => match us, hl with | [_, _], _ => rfl) sc__law_stock (fun vs H Q E h => ?_) (fun f cdv A outer s H vs Q E hr h => ?_)
  · obtain ⟨a, ns, z, rfl, _⟩ := h
    rfl
  · obtain ⟨a, ns, z, rfl, hS, hl, h0, h1, k⟩ := h
    refine ⟨_, (pss_cons (ps_set (i := 3) sc__law_stock.nd rfl (by first | exact Or.inl rfl | exact Or.inr rfl) (pe_ifExp (pt_cmpR op_lt (pv 1) (pe_callB (len_seqK (K := K) rfl) rfl (n_len T) (by decide +kernel) (pa_cons (pv 0) pa_nil)) (nomark _)) (pe_callTy call_int1 rfl (n_int T) (by decide +kernel) (pa_cons (pe_ix (ix_listK (K := K) rfl) (pv 0) (pv 1) (fun _ _ => rfl)) pa_nil)) (pe_op op_mul pe_int (pe_callB (sumK (K := K) rfl rfl) rfl (n_sum T) (by decide +kernel) (pa_cons (pe_lc (own := [("one", 2)]) rfl sc__law_stock.nd (pi_listK (K := K) rfl (pe_slice (sl_listK (K := K) rfl) (pv 0) po_none (po_some pe_int))) (blkOk_by (N := ["script", "at", "one", "cell", "size", "small"]) (sc := defScope s__law_stock) (by decide +kernel)) (fun _ _ _ _ _ => (pg_name (i := 2) sc__law_stock.nd rfl (by first | exact Or.inl rfl | exact Or.inr rfl))) (fun _ _ _ _ _ => pts_nil) (fun _ _ _ _ _ => (pe_op op_modN (pe_callTy call_int1 rfl (n_int T) (by decide +kernel) (pa_cons (pv 2) pa_nil)) pe_int))) pa_nil)))))
      (pss_cons (ps_set (i := 4) sc__law_stock.nd rfl (by first | exact Or.inl rfl | exact Or.inr rfl) (pe_callB call_abs rfl (n_abs T) (by decide +kernel) (pa_cons (pv 3) pa_nil)))
      (pss_cons (ps_set (i := 5) sc__law_stock.nd rfl (by first | exact Or.inl rfl | exact Or.inr rfl) (pe_op op_modN (pe_callTy call_int1 rfl (n_int T) (by decide +kernel) (pa_cons (pe_op op_add (pe_op op_add (pe_op op_add (pe_op op_mul pe_int (pv 4)) (pe_ifExp (pt_cmpR op_lt (pv 3) pe_int (nomark _)) pe_int pe_int)) (pe_op op_mul (pv 1) pe_int)) pe_int) pa_nil)) pe_int))
      (pss_one (ps_ret (pe_lst (pa_cons (pe_ifExp (pt_cmpR op_ge (pv 4) (pe_op op_pow pe_int pe_int) (nomark _)) (pv 4) pe_int) (pa_cons (pe_op op_modN (pe_callTy call_int1 rfl (n_int T) (by decide +kernel) (pa_cons (pe_op op_mul (pe_op op_add (pv 5) pe_int) (pe_op op_add (pv 5) pe_int)) pa_nil)) pe_int) (pa_cons (pv 1) pa_nil))))))))), ?_⟩
    refine st_let (fun v H' => ∃ c, v = .int c ∧ Same H H') (fun R hR => ?_) (fun v H1 hv => ?_)
    · refine ⟨_, rfl, _, rfl, _, _, rfl, .inl hS, _, _, rfl, rfl, _, rfl, ?_⟩
      refine ite2 (fun c1 => ?_) (fun c1 => ?_)
      · have c2 : z < (ns.map V.int).length := of_decide_eq_true c1
        rw [ints_len] at c2
        obtain ⟨n, hn⟩ : ∃ n, ns[z.toNat]? = some n := ⟨ns[z.toNat]'(by omega), List.getElem?_eq_getElem (by omega)⟩
        exact ⟨_, rfl, _, rfl, a, _, z, _, rfl, rfl, hS, atI_int h0 (ints_at hn), .inl ⟨_, rfl, hR _ _ ⟨_, rfl, Same.refl H⟩⟩⟩
      · obtain ⟨ms, e1, e2⟩ := cutV_map V.int ns none (some 4)
        refine ⟨_, rfl, _, rfl, a, _, rfl, hS, fun p hp => ?_⟩
        rw [e1]
        have s1 : Same H (upd H p (.lst (ms.map V.int))) := same_new hp
        refine ⟨p, rfl, ⟨_, SqL.of upd_same⟩, fun D hD => lc_acc (K := K) (a := p) (xs := ms.map V.int) hD (SqL.of upd_same) (by rw [ints_len, e2]; exact Nat.lt_of_le_of_lt (List.length_take_le' _ _) (by rw [List.length_drop]; omega)) (fun i acc H' => ∃ zs : List Int, acc = zs.map V.int) (fun _ _ => ⟨[], rfl⟩) ?_ ?_⟩
        · rintro i x acc H' N N0 hx s2 hacc ⟨zs, rfl⟩ hN hN0
          obtain ⟨y, hy, rfl⟩ := ints_get hx
          refine ⟨rfl, ?_⟩
          exact ⟨_, rfl, .inl ⟨_, rfl, _, _, rfl, rfl, (by show (1000003 : Int) ≠ 0; decide), hN _ _ (Same.refl _) fun _ _ _ => ⟨zs ++ [y.fmod 1000003], by rw [List.map_append]; rfl⟩⟩⟩
        · rintro acc H' s2 hacc _ ⟨zs, rfl⟩
          exact ⟨D, zs, rfl, SqL.of hacc, _, _, rfl, rfl, .inl (by decide), hR _ _ ⟨_, rfl, s1.trans s2⟩⟩
    · obtain ⟨c, rfl, s1⟩ := hv
      -- size = abs(cell)
      refine ⟨_, rfl, _, rfl, ?_⟩
      generalize hsz : (if c < 0 then -c else c) = size
      -- small = ..
      refine nxE (st_let (fun v H' => ∃ d : Int, v = .int d ∧ 0 ≤ d ∧ d < 2147483629 ∧ H' = H1) (fun R hR => ?_) (fun v H2 hv => ?_))
      · refine ⟨_, rfl, _, _, rfl, rfl, .inl (by decide), ?_⟩
        have fin : ∀ k : Int, R (.int ((2 * size + k + z * 104729 + 12345).fmod 2147483629)) H1 := fun k => hR _ _ ⟨_, rfl, (fmod_range _ (by decide)).1, (fmod_range _ (by decide)).2, rfl⟩
        refine ⟨_, rfl, _, _, rfl, rfl, _, rfl, ?_⟩
        refine ite2 (fun c1 => ?_) (fun c1 => ?_)
        · exact ⟨_, _, rfl, rfl, _, rfl, _, _, rfl, rfl, .inr (by decide), _, _, rfl, rfl, _, _, rfl, rfl, .inl ⟨_, rfl, _, _, rfl, rfl, (by show (2147483629 : Int) ≠ 0; decide), fin 1⟩⟩
        · exact ⟨_, _, rfl, rfl, _, rfl, _, _, rfl, rfl, .inr (by decide), _, _, rfl, rfl, _, _, rfl, rfl, .inl ⟨_, rfl, _, _, rfl, rfl, (by show (2147483629 : Int) ≠ 0; decide), fin 0⟩⟩
      · obtain ⟨d, rfl, d0, d1, rfl⟩ := hv
        -- return [..]
        have fin : ∀ e : Int, ∀ p, H2 p = none → Q (.ref p) (upd H2 p (.lst [.int e, .int (((d + 7919) * (d + 104729)).fmod 2147483629), .int z])) := fun e p hp => k p _ (s1.free hp) (s1.trans (same_new hp)) ⟨_, _, _, upd_same⟩
        refine ⟨_, rfl, _, _, rfl, rfl, ⟨by decide, by decide, by decide⟩, _, _, rfl, rfl, _, rfl, ?_⟩
        refine ite2 (fun c1 => ?_) (fun c1 => ?_)
        · exact ⟨_, rfl, _, rfl, _, _, rfl, rfl, _, rfl, _, _, rfl, rfl, _, _, rfl, rfl, .inl ⟨by show -(2 ^ 64) < d + 7919; omega, by show d + 7919 < 2 ^ 64; omega⟩, .inl ⟨_, rfl, _, _, rfl, rfl, (by show (2147483629 : Int) ≠ 0; decide), _, rfl, (by show 3 ≤ sizeLine; decide), fun p hp => fin _ p hp⟩⟩
        · exact ⟨_, rfl, _, _, rfl, rfl, _, rfl, _, _, rfl, rfl, _, _, rfl, rfl, .inl ⟨by show -(2 ^ 64) < d + 7919; omega, by show d + 7919 < 2 ^ 64; omega⟩, .inl ⟨_, rfl, _, _, rfl, rfl, (by show (2147483629 : Int) ≠ 0; decide), _, rfl, (by show 3 ≤ sizeLine; decide), fun p hp => fin _ p hp⟩⟩
end
end K04
end
section
set_option maxRecDepth 100000
set_option maxHeartbeats 4000000
namespace K04
open PySem PySem.Spec PyProof.Rows L2
end K04
namespace L2
open PySem PySem.Spec PyProof.Rows
theorem PairT.un {K : PySem.W.Frag} {H : Hp} {x : V} {c : Int × Int} (h : PairT H x c) {σ : L2.St} {i j n : Nat} (hn : n = 2) {Q : L2.St → Hp → Prop} (q : Q ((σ.set i (some (.int c.1))).set j (some (.int c.2))) H) : gTup K n (gCons (gName i) (gCons (gName j) gNil)) x σ H Q := by
  subst hn
  obtain ⟨t, rfl, h⟩ := h
  exact ⟨t, _, rfl, SqT.of h, rfl, _, _, rfl, _, _, rfl, rfl, q⟩
theorem PairT.i0 {K : PySem.W.Frag} {H : Hp} {x : V} {c : Int × Int} (h : PairT H x c) {Q : VK} (q : Q (.int c.1) H) : rIx K x (.int 0) H Q := by
  obtain ⟨t, rfl, h⟩ := h
  exact .inr (.inl ⟨t, _, 0, _, rfl, rfl, SqT.of h, rfl, q⟩)
theorem PairT.i1 {K : PySem.W.Frag} {H : Hp} {x : V} {c : Int × Int} (h : PairT H x c) {Q : VK} (q : Q (.int c.2) H) : rIx K x (.int 1) H Q := by
  obtain ⟨t, rfl, h⟩ := h
  exact .inr (.inl ⟨t, _, 1, _, rfl, rfl, SqT.of h, rfl, q⟩)
end L2
namespace K04
open PySem PySem.Spec PyProof.Rows L2
theorem flt_take {α : Type} {p : α → Bool} {l : List α} {i : Nat} {c : α} (h : l[i]? = some c) (b : Bool) (hb : p c = b) : ((l.take (i + 1)).filter p).length = ((l.take i).filter p).length + (if b then 1 else 0) := by
  rw [take_get h, List.filter_append, List.length_append, List.filter_cons, hb]
  cases b <;> rfl
/-! ### a garden -/
abbrev gf (d : Int) (l : Addr) : List (Str × V) := [("days_number", V.int d), ("seed_list", V.ref l)]
theorem gf_days (d : Int) (l : Addr) : (gf d l).lookup ("days_number" : Str) = some (.int d) := by simp [List.lookup]
theorem gf_seeds (d : Int) (l : Addr) : (gf d l).lookup ("seed_list" : Str) = some (.ref l) := by
  have e : (("seed_list" : Str) == ("days_number" : Str)) = false := by decide +kernel
  simp [List.lookup, e]
def GardenAt (K : PySem.W.Frag) (H : Hp) (p : Addr) (d : Int) (ws : List (Int × Int)) : Prop := ∃ dx l xs, H p = some (.ins (cG K) dx (gf d l)) ∧ H l = some (.lst xs) ∧ Paired (PairT H) xs ws
theorem GardenAt.same {K : PySem.W.Frag} {H H' : Hp} {p : Addr} {d : Int} {ws : List (Int × Int)} (e : Same H H') (h : GardenAt K H p d ws) : GardenAt K H' p d ws := by
  obtain ⟨dx, l, xs, h1, h2, h3⟩ := h
  exact ⟨dx, l, xs, e _ _ h1, e _ _ h2, Paired.mapP h3 fun _ _ z => z.same e⟩
/-- a garden whose row of seeds was made after H0 -/
def GardenN (K : PySem.W.Frag) (H0 H : Hp) (p : Addr) (d : Int) (ws : List (Int × Int)) : Prop := ∃ dx l xs, H0 l = none ∧ H p = some (.ins (cG K) dx (gf d l)) ∧ H l = some (.lst xs) ∧ Paired (PairT H) xs ws
theorem none_of {H H' : Hp} {a : Addr} (e : Same H H') (h : H' a = none) : H a = none := by
  cases q : H a with
  | none => rfl
  | some o => rw [e _ _ q] at h; cases h
theorem GardenN.at {K : PySem.W.Frag} {H0 H : Hp} {p : Addr} {d : Int} {ws : List (Int × Int)} (h : GardenN K H0 H p d ws) : GardenAt K H p d ws := by
  obtain ⟨dx, l, xs, _, h⟩ := h
  exact ⟨dx, l, xs, h⟩
theorem GardenN.same {K : PySem.W.Frag} {H0 H H' : Hp} {p : Addr} {d : Int} {ws : List (Int × Int)} (e : Same H H') (h : GardenN K H0 H p d ws) : GardenN K H0 H' p d ws := by
  obtain ⟨dx, l, xs, h0, h1, h2, h3⟩ := h
  exact ⟨dx, l, xs, h0, e _ _ h1, e _ _ h2, Paired.mapP h3 fun _ _ z => z.same e⟩
theorem GardenN.dn {K : PySem.W.Frag} {H0 H1 H : Hp} {p : Addr} {d : Int} {ws : List (Int × Int)} (e : Same H0 H1) (h : GardenN K H1 H p d ws) : GardenN K H0 H p d ws := by
  obtain ⟨dx, l, xs, h0, h⟩ := h
  exact ⟨dx, l, xs, none_of e h0, h⟩
theorem GardenN.mut {K : PySem.W.Frag} {H0 H : Hp} {p q : Addr} {d : Int} {ws : List (Int × Int)} {ys : List V} {o : HO} (h0 : H0 q ≠ none) (hq : H q = some (.lst ys)) (h : GardenN K H0 H p d ws) : GardenN K H0 (upd H q o) p d ws := by
  obtain ⟨dx, l, xs, n, h1, h2, h3⟩ := h
  refine ⟨dx, l, xs, n, ?_, ?_, Paired.mapP h3 fun _ _ z => z.mut hq⟩
  · rw [upd_ne fun z => by rw [z, hq] at h1; cases h1]
    exact h1
  · rw [upd_ne (fun z => h0 (by rw [← z]; exact n))]
    exact h2
/-- wrong windows: the first row from k on -/
def badW (T : Int) (c : Int × Int) : Bool := decide (c.1 < 1) || (decide (c.2 < c.1) || decide (T < c.2))
def fbadW (T : Int) : Int → List (Int × Int) → Int
  | _, [] => 0
  | k, c :: r => if badW T c = true then k else fbadW T (k + 1) r
section
variable {P : Program} {w : World} {K : PySem.W.Frag} {mg : Str → Option Value} {base : Heap}
def spGDays (K : PySem.W.Frag) : Sp := fun vs H Q _ => ∃ p d ws, vs = [.ref p] ∧ GardenAt K H p d ws ∧ Q (.int d) H
theorem okm_Garden_days (T : Txt w K mg) : OkM P w K mg base CX0 1 (cG K) "days" ["self"] (spGDays K) := by
  refine OkM.def0 (fm_Garden_days T) (me_Garden_days T) (fun _ _ _ _ _ _ us hl => match us, hl with | [_], _ => rfl) sc_Garden_days (fun vs H Q E h => ?_) (fun cdv A outer s H vs Q E hr h => ?_)
  · obtain ⟨p, d, ws, rfl, _⟩ := h
    rfl
  · obtain ⟨p, d, ws, rfl, ⟨dx, l, xs, h1, h2, h3⟩, k⟩ := h
    refine ⟨_, (pss_one (ps_ret (pe_fld (pv 0) rfl))), ?_⟩
    exact ⟨_, rfl, p, _, dx, _, _, rfl, h1, cl_Garden T, na_Garden_days_number T, gf_days d l, k⟩
def spGMany (K : PySem.W.Frag) : Sp := fun vs H Q _ => ∃ p d ws, vs = [.ref p] ∧ GardenAt K H p d ws ∧ Q (.int ws.length) H
theorem okm_Garden_many (T : Txt w K mg) : OkM P w K mg base CX0 1 (cG K) "many" ["self"] (spGMany K) := by
  refine OkM.def0 (fm_Garden_many T) (me_Garden_many T) (fun _ _ _ _ _ _ us hl => match us, hl with | [_], _ => rfl) sc_Garden_many (fun vs H Q E h => ?_) (fun cdv A outer s H vs Q E hr h => ?_)
  · obtain ⟨p, d, ws, rfl, _⟩ := h
    rfl
  · obtain ⟨p, d, ws, rfl, ⟨dx, l, xs, h1, h2, h3⟩, k⟩ := h
    refine ⟨_, (pss_one (ps_ret (pe_callB (len_seqK (K := K) rfl) rfl (n_len T) (by decide +kernel) (pa_cons (pe_fld (pv 0) rfl) pa_nil)))), ?_⟩
    refine ⟨_, rfl, p, _, dx, _, _, rfl, h1, cl_Garden T, na_Garden_seed_list T, gf_seeds d l, _, _, rfl, .inl (SqL.of h2), ?_⟩
    rw [Paired.length h3]
    exact k
/-- a new list of the windows -/
def spGRows (K : PySem.W.Frag) : Sp := fun vs H Q _ => ∃ p d ws, vs = [.ref p] ∧ GardenAt K H p d ws ∧ ∀ l xs H', H l = none → Same H H' → H' l = some (.lst xs) → Paired (PairT H') xs ws → Q (.ref l) H'
theorem okm_Garden_rows (T : Txt w K mg) : OkM P w K mg base CX0 1 (cG K) "rows" ["self"] (spGRows K) := by
  refine OkM.def0 (fm_Garden_rows T) (me_Garden_rows T) (fun _ _ _ _ _ _ us hl => match us, hl with | [_], _ => rfl) sc_Garden_rows (fun vs H Q E h => ?_) (fun cdv A outer s H vs Q E hr h => ?_)
  · obtain ⟨p, d, ws, rfl, _⟩ := h
    rfl
  · obtain ⟨p, d, ws, rfl, ⟨dx, l, xs, h1, h2, h3⟩, k⟩ := h
    refine ⟨_, (pss_one (ps_ret (pe_callTy (list_ofK (K := K) rfl) rfl (n_list T) (by decide +kernel) (pa_cons (pe_fld (pv 0) rfl) pa_nil)))), ?_⟩
    refine ⟨_, rfl, p, _, dx, _, _, rfl, h1, cl_Garden T, na_Garden_seed_list T, gf_seeds d l, l, xs, rfl, .inl (SqL.of h2), fun m hm => ?_⟩
    obtain ⟨s1, g1⟩ := new2 (.lst xs) hm
    exact k m xs _ hm s1 g1 (Paired.mapP h3 fun _ _ z => z.same s1)
def inC (a b : Int) (ws : List (Int × Int)) : Nat := (ws.filter fun c => decide (a < c.1) && decide (c.2 ≤ b)).length
def spGInside (K : PySem.W.Frag) : Sp := fun vs H Q E => ∃ p d ws a b, vs = [.ref p, .int a, .int b] ∧ GardenAt K H p d ws ∧ ws.length ≤ 1000 ∧ (∀ x, badS d a b = some x → Rz E H (cBD K) "day" (.int x)) ∧ (badS d a b = none → ∀ H', Same H H' → Q (.int (inC a b ws)) H')
theorem okm_Garden_inside (T : Txt w K mg) : OkM P w K mg base (L2.CX P w) 6 (cG K) "inside" ["self", "a", "b"] (spGInside K) := by
  refine OkM.defX (fm_Garden_inside T) (me_Garden_inside T) (fun _ _ _ _ _ _ us hl => match us, hl with | [_, _, _], _ => rfl) sc_Garden_inside (fun vs H Q E h => ?_) (fun cdv A outer s H vs Q E hr h tk => ?_)
  · obtain ⟨p, d, ws, a, b, rfl, _⟩ := h
    rfl
  · obtain ⟨p, d, ws, a, b, rfl, ⟨dx, l, xs, h1, h2, h3⟩, hl, k1, k2⟩ := h
    refine ⟨_, (pss_cons (ps_expr (pe_okS (ok_check_stretch T) (hr.mono (by first | decide | omega)) rfl (fun σ => passAt tk σ) (pa_cons (pv 1) (pa_cons (pv 2) (pa_cons (pe_fld (pv 0) rfl) pa_nil)))))
      (pss_one (ps_ret (pe_callB (len_seqK (K := K) rfl) rfl (n_len T) (by decide +kernel) (pa_cons (pe_lc (own := [("first", 3), ("last", 4)]) rfl sc_Garden_inside.nd (pi_listK (K := K) rfl (pe_fld (pv 0) rfl)) (blkOk_by (N := ["self", "a", "b", "first", "last"]) (sc := defScope s_Garden_inside) (by decide +kernel)) (fun _ _ _ _ _ => (pg_tupK (K := K) (n := 2) rfl rfl (pgs_cons (pg_name (i := 3) sc_Garden_inside.nd rfl (by first | exact Or.inl rfl | exact Or.inr rfl)) (pgs_cons (pg_name (i := 4) sc_Garden_inside.nd rfl (by first | exact Or.inl rfl | exact Or.inr rfl)) pgs_nil)))) (fun _ _ _ _ _ => pts_one (PW.pt (pw_and (pt_cmpR op_lt (pv 1) (pv 3) (nomark _)) (pw_and1 (pt_cmpR op_le (pv 4) (pv 2) (nomark _)))))) (fun _ _ _ _ _ => (pv 3))) pa_nil))))), ?_⟩
    refine ⟨_, rfl, _, rfl, _, rfl, p, _, dx, _, _, rfl, h1, cl_Garden T, na_Garden_days_number T, gf_days d l, a, b, d, rfl, fun hb => ?_, k1⟩
    have hxl : xs.length ≤ 1000 := by rw [Paired.length h3]; exact hl
    refine ⟨_, rfl, p, _, dx, _, _, rfl, h1, cl_Garden T, na_Garden_seed_list T, gf_seeds d l, l, rfl, ⟨_, SqL.of h2⟩, fun D hD => lc_acc (K := K) (a := l) (xs := xs) hD (SqL.of h2) (by omega) (fun j acc _ => acc.length = inC a b (ws.take j)) (fun _ _ => rfl) ?_ ?_⟩
    · rintro j x acc H' N N0 hx s' hacc hI hN hN0
      obtain ⟨c, hc, hr⟩ := paired_get h3 hx
      refine (hr.same s').un rfl ⟨rfl, ?_⟩
      refine ⟨_, rfl, _, rfl, _, _, rfl, rfl, _, rfl, ?_⟩
      cases q1 : decide (a < c.1) with
      | false => exact iteF (hN0 _ (Same.refl _) (by unfold inC; rw [flt_take hc false (by rw [q1]; rfl)]; exact hI))
      | true =>
        refine ⟨_, rfl, _, rfl, _, _, rfl, rfl, _, rfl, ?_⟩
        cases q2 : decide (c.2 ≤ b) with
        | false => exact hN0 _ (Same.refl _) (by unfold inC; rw [flt_take hc false (by rw [q1, q2]; rfl)]; exact hI)
        | true => exact ⟨_, rfl, hN _ _ (Same.refl _) fun _ _ _ => by unfold inC; rw [flt_take hc true (by rw [q1, q2]; rfl), List.length_append, hI]; rfl⟩
    · rintro acc H' s' hacc _ hI
      rw [Paired.length h3, List.take_length] at hI
      refine ⟨D, acc, rfl, .inl (SqL.of hacc), ?_⟩
      rw [hI]
      exact k2 hb _ s'
def opens (d : Int) : Int → List (Int × Int) → List Int
  | _, [] => []
  | k, c :: r => if c.1 ≤ d ∧ d ≤ c.2 then k :: opens d (k + 1) r else opens d (k + 1) r
theorem opens_len (d : Int) : ∀ (ws : List (Int × Int)) (k : Int), (opens d k ws).length ≤ ws.length
  | [], _ => Nat.le_refl _
  | c :: r, k => by
    unfold opens
    split
    · exact Nat.succ_le_succ (opens_len d r _)
    · exact Nat.le_succ_of_le (opens_len d r _)
def spGOpen (K : PySem.W.Frag) : Sp := fun vs H Q E => ∃ p T ws d, vs = [.ref p, .int d] ∧ GardenAt K H p T ws ∧ ws.length ≤ 1000 ∧ (¬ (1 ≤ d ∧ d ≤ T) → Rz E H (cBD K) "day" (.int d)) ∧
  (1 ≤ d → d ≤ T → ∀ l H', H l = none → Same H H' → H' l = some (.lst ((opens d 1 ws).map V.int)) → Q (.ref l) H')
theorem okm_Garden_open_on (T : Txt w K mg) : OkM P w K mg base (L2.CX P w) 6 (cG K) "open_on" ["self", "day"] (spGOpen K) := by
  refine OkM.defX (fm_Garden_open_on T) (me_Garden_open_on T) (fun _ _ _ _ _ _ us hl => match us, hl with | [_, _], _ => rfl) sc_Garden_open_on (fun vs H Q E h => ?_) (fun cdv A outer s H vs Q E hr h tk => ?_)
  · obtain ⟨p, TT, ws, d, rfl, _⟩ := h
    rfl
  · obtain ⟨p, TT, ws, d, rfl, ⟨dx, l, xs, h1, h2, h3⟩, hl, k1, k2⟩ := h
    have hxl : xs.length ≤ 1000 := by rw [Paired.length h3]; exact hl
    refine ⟨_, (pss_cons (ps_expr (pe_okS (ok_check_day T) (hr.mono (by first | decide | omega)) rfl (fun σ => passAt tk σ) (pa_cons (pv 1) (pa_cons pe_int (pa_cons (pe_fld (pv 0) rfl) pa_nil)))))
      (pss_cons (ps_set (i := 2) sc_Garden_open_on.nd rfl (by first | exact Or.inl rfl | exact Or.inr rfl) (pe_lst pa_nil))
      (pss_cons (ps_for (passes_of rfl) rfl (pi_range1 rfl (n_range T) (pa_cons (pe_callB (len_seqK (K := K) rfl) rfl (n_len T) (by decide +kernel) (pa_cons (pe_fld (pv 0) rfl) pa_nil)) pa_nil)) (pg_name (i := 3) sc_Garden_open_on.nd rfl (by first | exact Or.inl rfl | exact Or.inr rfl))
        (pss_one (ps_if (pt_chain op_le op_le (pe_ix (ix_seqK (K := K) rfl) (pe_ix (ix_seqK (K := K) rfl) (pe_fld (pv 0) rfl) (pv 3) (fun _ _ => rfl)) pe_int (fun _ _ => rfl)) (pv 1) (pe_ix (ix_seqK (K := K) rfl) (pe_ix (ix_seqK (K := K) rfl) (pe_fld (pv 0) rfl) (pv 3) (fun _ _ => rfl)) pe_int (fun _ _ => rfl))) (pss_one (ps_expr (pe_bm PySem.F.plainAttrs_list PySem.F.slot_list_append PySem.F.type_list_append mt_append (pv 2) (pa_cons (pe_op op_add (pv 3) pe_int) pa_nil)))) pss_nil)))
      (pss_one (ps_ret (pv 2)))))), ?_⟩
    refine ⟨_, rfl, _, rfl, p, _, dx, _, _, rfl, h1, cl_Garden T, na_Garden_days_number T, gf_days TT l, d, 1, TT, rfl, fun q1 q2 => ?_, k1⟩
    refine ⟨(by show 0 ≤ sizeLine; decide), fun m hm => ?_⟩
    obtain ⟨s1, g1⟩ := new2 (.lst []) hm
    refine ⟨_, rfl, p, _, dx, _, _, rfl, s1 _ _ h1, cl_Garden T, na_Garden_seed_list T, gf_seeds TT l, _, _, rfl, .inl (SqL.of (s1 _ _ h2)), _, rfl, by omega, by omega,
      for_upto (lo := 0) (L := ws.length) (by rw [Paired.length h3]; omega) (fun i σ H' => ∃ v3 acc, σ = [some (.ref p), some (.int d), some (.ref m), v3] ∧ Same H H' ∧ H' m = some (.lst (acc.map V.int)) ∧ acc.length ≤ i ∧ opens d 1 ws = acc ++ opens d (1 + (i : Nat)) (ws.drop i)) ⟨_, [], rfl, s1, g1, Nat.le_refl _, rfl⟩ ?_ ?_⟩
    · rintro i σ H' hi ⟨v3, acc, rfl, e, hL, hal, hu⟩
      obtain ⟨c, hc⟩ : ∃ c, ws[i]? = some c := ⟨ws[i], List.getElem?_eq_getElem hi⟩
      obtain ⟨x, hx⟩ : ∃ x, xs[i]? = some x := ⟨xs[i]'(by rw [Paired.length h3]; exact hi), List.getElem?_eq_getElem _⟩
      obtain ⟨c', hc', hr⟩ := paired_get h3 hx
      rw [hc] at hc'
      cases hc'
      have hr := hr.same e
      have hl1 := e _ _ h1
      have hl2 := e _ _ h2
      rw [drop_get hc] at hu
      have step : opens d (1 + (i : Nat)) (c :: ws.drop (i + 1)) = if c.1 ≤ d ∧ d ≤ c.2 then (1 + ((i : Nat) : Int)) :: opens d (1 + (i : Nat) + 1) (ws.drop (i + 1)) else opens d (1 + (i : Nat) + 1) (ws.drop (i + 1)) := rfl
      have next : (1 + ((i + 1 : Nat) : Int)) = 1 + (i : Nat) + 1 := by omega
      have skip : ¬ (c.1 ≤ d ∧ d ≤ c.2) → opens d 1 ws = acc ++ opens d (1 + ((i + 1 : Nat) : Int)) (ws.drop (i + 1)) := fun z => by
        rw [step, if_neg z] at hu
        rw [hu, next]
      refine ⟨_, rfl, p, _, dx, _, _, rfl, hl1, cl_Garden T, na_Garden_seed_list T, gf_seeds TT l, _, rfl, .inl ⟨l, _, _, _, rfl, rfl, SqL.of hl2, at_of (by omega) hx, hr.i0 ⟨_, rfl, _, _, rfl, rfl, _, rfl, ?_⟩⟩⟩
      cases q1 : decide (c.1 ≤ d) with
      | false => exact ⟨_, rfl, _, acc, rfl, e, hL, Nat.le_succ_of_le hal, skip fun z => absurd z.1 (of_decide_eq_false q1)⟩
      | true =>
        refine ⟨_, rfl, p, _, dx, _, _, rfl, hl1, cl_Garden T, na_Garden_seed_list T, gf_seeds TT l, _, rfl, .inl ⟨l, _, _, _, rfl, rfl, SqL.of hl2, at_of (by omega) hx, hr.i1 ⟨_, _, rfl, rfl, _, rfl, ?_⟩⟩⟩
        refine ite2 (fun q2 => ?_) (fun q2 => ?_)
        · rw [step, if_pos ⟨of_decide_eq_true q1, of_decide_eq_true q2⟩] at hu
          refine ⟨_, rfl, .inl ⟨rfl, _, SqL.of hL⟩, _, rfl, _, _, rfl, rfl, m, _, _, rfl, rfl, hL, (by rw [ints_len]; exact line_lt (by omega)), ?_⟩
          have e2 : (0 + (i : Int)) + 1 = 1 + (i : Int) := by omega
          refine ⟨_, acc ++ [1 + ((i : Nat) : Int)], rfl, same_mut e hm, by rw [upd_same, List.map_append]; show some (HO.lst (_ ++ [V.int ((0 + (i : Int)) + 1)])) = _; rw [e2]; rfl, by rw [List.length_append]; exact Nat.succ_le_succ hal, ?_⟩
          rw [hu, next, List.append_assoc]
          rfl
        · exact ⟨_, acc, rfl, e, hL, Nat.le_succ_of_le hal, skip fun z => q2 (decide_eq_true z.2)⟩
    · rintro σ H' ⟨v3, acc, rfl, e, hL, hal, hu⟩
      rw [List.drop_length] at hu
      have hu : opens d 1 ws = acc := by rw [hu]; exact List.append_nil acc
      exact ⟨_, rfl, k2 q1 q2 m _ hm e (by rw [hu]; exact hL)⟩
end
end K04
end
section
set_option maxRecDepth 100000
set_option maxHeartbeats 4000000
namespace K04
open PySem PySem.Spec PyProof.Rows L2
section
variable {P : Program} {w : World} {K : PySem.W.Frag} {mg : Str → Option Value} {base : Heap}
def spGInit (K : PySem.W.Frag) : Sp := fun vs H Q E => ∃ p dx d s ys ws, vs = [.ref p, .int d, .ref s] ∧ H p = some (.ins (cG K) dx []) ∧ H s = some (.lst ys) ∧ Paired (PairT H) ys ws ∧ ys.length ≤ 1000 ∧
  (24 < d → Rz E H (cTM K) "what" (.str "days")) ∧ (d ≤ 24 → 120 < ws.length → Rz E H (cTM K) "what" (.str "seeds")) ∧ (d < 1 → ws.length ≤ 120 → Rz E H (cBG K) "row" (.int 0)) ∧
  (1 ≤ d → d ≤ 24 → ws.length ≤ 120 → fbadW d 1 ws ≠ 0 → Rz E H (cBG K) "row" (.int (fbadW d 1 ws))) ∧
  (1 ≤ d → d ≤ 24 → ws.length ≤ 120 → fbadW d 1 ws = 0 → ∀ H', But p H H' → GardenN K H H' p d ws → Q .non H')
theorem okk_Garden (T : Txt w K mg) : OkK P w K mg base (L2.CX P w) 5 "Garden" (cG K) ["self", "days", "seeds"] (spGInit K) := by
  refine OkK.defX (fm_Garden___init__ T) (mk_Garden T) (g_Garden T) (fun _ _ _ _ _ _ us hl => match us, hl with | [_, _, _], _ => rfl) sc_Garden___init__ (fun vs H Q E h => ?_) (fun cdv A outer s H vs Q E hr h tk => ?_)
  · obtain ⟨p, dx, d, s, ys, ws, rfl, _⟩ := h
    rfl
  · obtain ⟨p, dx, d, sd, ys, ws, rfl, hp, hS, hP, hl, e1, e2, e3, e4, k⟩ := h
    refine ⟨_, (pss_cons (ps_expr (pe_okS (ok_check T) (hr.mono (by first | decide | omega)) rfl (fun σ => passAt tk σ) (pa_cons pe_str (pa_cons (pv 1) pa_nil))))
      (pss_cons (ps_expr (pe_okS (ok_check T) (hr.mono (by first | decide | omega)) rfl (fun σ => passAt tk σ) (pa_cons pe_str (pa_cons (pe_callB (len_seqK (K := K) rfl) rfl (n_len T) (by decide +kernel) (pa_cons (pv 2) pa_nil)) pa_nil))))
      (pss_cons (ps_if (pt_cmpR op_lt (pv 1) pe_int (nomark _)) (pss_one (ps_raise rfl tk (pmk_x (x_BadGarden T) (hr.mono (by first | decide | omega)) rfl (pa_cons pe_int pa_nil)))) pss_nil)
      (pss_cons (ps_for (passes_of rfl) rfl (pi_range1 rfl (n_range T) (pa_cons (pe_callB (len_seqK (K := K) rfl) rfl (n_len T) (by decide +kernel) (pa_cons (pv 2) pa_nil)) pa_nil)) (pg_name (i := 3) sc_Garden___init__.nd rfl (by first | exact Or.inl rfl | exact Or.inr rfl))
        (pss_one (ps_if (PW.pt (pw_or (pt_cmpR op_lt (pe_ix (ix_seqK (K := K) rfl) (pe_ix (ix_listK (K := K) rfl) (pv 2) (pv 3) (fun _ _ => rfl)) pe_int (fun _ _ => rfl)) pe_int (nomark _)) (pw_or (pt_cmpR op_lt (pe_ix (ix_seqK (K := K) rfl) (pe_ix (ix_listK (K := K) rfl) (pv 2) (pv 3) (fun _ _ => rfl)) pe_int (fun _ _ => rfl)) (pe_ix (ix_seqK (K := K) rfl) (pe_ix (ix_listK (K := K) rfl) (pv 2) (pv 3) (fun _ _ => rfl)) pe_int (fun _ _ => rfl)) (nomark _)) (pw_or1 (pt_cmpR op_gt (pe_ix (ix_seqK (K := K) rfl) (pe_ix (ix_listK (K := K) rfl) (pv 2) (pv 3) (fun _ _ => rfl)) pe_int (fun _ _ => rfl)) (pv 1) (nomark _)))))) (pss_one (ps_raise rfl tk (pmk_x (x_BadGarden T) (hr.mono (by first | decide | omega)) rfl (pa_cons (pe_op op_add (pv 3) pe_int) pa_nil)))) pss_nil)))
      (pss_cons (ps_fld (pv 0) (pv 1) rfl)
      (pss_one (ps_fld (pv 0) (pe_lc (own := [("first", 4), ("last", 5)]) rfl sc_Garden___init__.nd (pi_listK (K := K) rfl (pv 2)) (blkOk_by (N := ["self", "days", "seeds", "at", "first", "last"]) (sc := defScope s_Garden___init__) (by decide +kernel)) (fun _ _ _ _ _ => (pg_tupK (K := K) (n := 2) rfl rfl (pgs_cons (pg_name (i := 4) sc_Garden___init__.nd rfl (by first | exact Or.inl rfl | exact Or.inr rfl)) (pgs_cons (pg_name (i := 5) sc_Garden___init__.nd rfl (by first | exact Or.inl rfl | exact Or.inr rfl)) pgs_nil)))) (fun _ _ _ _ _ => pts_nil) (fun _ _ _ _ _ => (pe_tup (pa_cons (pv 4) (pa_cons (pv 5) pa_nil))))) rfl))))))), ?_⟩
    refine ⟨_, rfl, "days", d, 24, rfl, lim_days, fun c1 => ?_, fun c1 => e1 c1⟩
    refine ⟨_, rfl, _, _, rfl, .inl (SqL.of hS), "seeds", _, 120, rfl, lim_seeds, fun c2 => ?_, fun c2 => e2 c1 (by rw [Paired.length hP] at c2; omega)⟩
    have hlw : ys.length = ws.length := Paired.length hP
    have c2 : ws.length ≤ 120 := by omega
    refine ⟨_, rfl, _, _, rfl, rfl, _, rfl, ?_⟩
    refine ite2 (fun c3 => ?_) (fun c3 => ?_)
    · exact mko ((e3 (of_decide_eq_true c3) c2).at (Same.refl H))
    have c3 : 1 ≤ d := Int.not_lt.mp fun z => c3 (decide_eq_true z)
    have e4 := e4 c3 c1 c2
    have k := k c3 c1 c2
    refine ⟨_, rfl, _, _, rfl, .inl (SqL.of hS), _, rfl, by omega, by omega,
      for_upto (lo := 0) (L := ws.length) (by omega) (fun i σ H' => ∃ v3, σ = [some (.ref p), some (.int d), some (.ref sd), v3, none, none] ∧ H' = H ∧ fbadW d 1 ws = fbadW d (1 + (i : Nat)) (ws.drop i)) ⟨_, rfl, rfl, rfl⟩ ?_ ?_⟩
    · rintro i σ H' hi ⟨v3, rfl, rfl, hu⟩
      obtain ⟨c, hc⟩ : ∃ c, ws[i]? = some c := ⟨ws[i], List.getElem?_eq_getElem hi⟩
      obtain ⟨x, hx⟩ : ∃ x, ys[i]? = some x := ⟨ys[i]'(by omega), List.getElem?_eq_getElem _⟩
      obtain ⟨c', hc', hr⟩ := paired_get hP hx
      rw [hc] at hc'
      cases hc'
      rw [drop_get hc] at hu
      have step : fbadW d (1 + (i : Nat)) (c :: ws.drop (i + 1)) = if badW d c = true then (1 + ((i : Nat) : Int)) else fbadW d (1 + (i : Nat) + 1) (ws.drop (i + 1)) := rfl
      have next : (1 + ((i + 1 : Nat) : Int)) = 1 + (i : Nat) + 1 := by omega
      have e2' : (0 + (i : Int)) + 1 = 1 + (i : Int) := by omega
      have bad : badW d c = true → Rz E H' (cBG K) "row" (.int ((0 + (i : Int)) + 1)) := fun q => by
        rw [step, if_pos q] at hu
        rw [hu] at e4
        rw [e2']
        exact e4 (by omega)
      have good : badW d c = false → fbadW d 1 ws = fbadW d (1 + ((i + 1 : Nat) : Int)) (ws.drop (i + 1)) := fun q => by
        rw [step, if_neg (fun z => by rw [q] at z; cases z)] at hu
        rw [hu, next]
      have raise : badW d c = true → ∀ t, H' t = none → E (.ref (cBG K)) (some t) (upd H' t (.xd [(("row" : Str), V.int ((0 + (i : Int)) + 1))])) := fun q => (bad q).at (Same.refl _)
      refine ⟨_, rfl, _, rfl, sd, _, _, _, rfl, rfl, SqL.of hS, at_of (by omega) hx, hr.i0 ⟨_, _, rfl, rfl, _, rfl, ?_⟩⟩
      cases q1 : decide (c.1 < 1) with
      | true => exact ⟨_, rfl, _, _, rfl, rfl, mko (raise (by simp [badW, q1]))⟩
      | false =>
        refine ⟨_, rfl, _, rfl, sd, _, _, _, rfl, rfl, SqL.of hS, at_of (by omega) hx, hr.i1 ⟨_, rfl, _, rfl, sd, _, _, _, rfl, rfl, SqL.of hS, at_of (by omega) hx, hr.i0 ⟨_, _, rfl, rfl, _, rfl, ?_⟩⟩⟩
        cases q2 : decide (c.2 < c.1) with
        | true => exact ⟨_, rfl, _, _, rfl, rfl, mko (raise (by simp [badW, q2]))⟩
        | false =>
          refine ⟨_, rfl, _, rfl, sd, _, _, _, rfl, rfl, SqL.of hS, at_of (by omega) hx, hr.i1 ⟨_, rfl, _, _, rfl, rfl, _, rfl, ?_⟩⟩
          cases q3 : decide (d < c.2) with
          | true => exact ⟨_, rfl, _, _, rfl, rfl, mko (raise (by simp [badW, q3]))⟩
          | false => exact ⟨_, rfl, rfl, good (by simp [badW, q1, q2, q3])⟩
    · rintro σ H' ⟨v3, rfl, rfl, hu⟩
      rw [List.drop_length] at hu
      have k := k hu
      clear e1 e2 e3 e4 hu
      have nps : sd ≠ p := fun z => by rw [z, hp] at hS; cases hS
      refine ⟨_, rfl, _, rfl, p, _, dx, [], rfl, hp, cl_Garden T, na_Garden_days_number T, (by show 0 < 1000; decide), ?_⟩
      have b1 : But p H' (upd H' p (.ins (cG K) dx (putF "days_number" (.int d) []))) := (But.refl p H').upd
      have p1 : upd H' p (.ins (cG K) dx (putF "days_number" (.int d) [])) p = some (.ins (cG K) dx (putF "days_number" (.int d) [])) := upd_same
      generalize upd H' p (.ins (cG K) dx (putF "days_number" (.int d) [])) = H1 at b1 p1 ⊢
      have hS1 := b1 _ _ hS nps
      have hP1 : Paired (PairT H1) ys ws := Paired.mapP hP fun _ _ z => by
        obtain ⟨t, rfl, h⟩ := z
        exact ⟨t, rfl, b1 _ _ h fun z => by rw [z, hp] at h; cases h⟩
      refine ⟨_, rfl, sd, rfl, ⟨_, SqL.of hS1⟩, fun D hD => lc_acc (K := K) (a := sd) (xs := ys) hD (SqL.of hS1) (by omega) (fun j acc H2 => Paired (PairT H2) acc (ws.take j)) (fun _ _ => .nil) ?_ ?_⟩
      · rintro j x acc H2 N N0 hx s2 hacc hI hN hN0
        obtain ⟨c, hc, hr⟩ := paired_get hP1 hx
        refine (hr.same s2).un rfl ⟨rfl, ?_⟩
        refine ⟨_, rfl, _, rfl, (by show 2 ≤ sizeLine; decide), fun t ht => ?_⟩
        obtain ⟨s3, g3⟩ := new2 (.tup [V.int c.1, V.int c.2]) ht
        have tD : t ≠ D := fun z => by rw [z, hacc] at ht; cases ht
        refine hN _ _ s3 fun H5 b5 _ => ?_
        rw [take_get hc]
        refine paired_snoc (Paired.mapP hI fun _ _ z => ?_) ⟨t, rfl, b5 _ _ g3 tD⟩
        obtain ⟨u, rfl, h⟩ := z.same s3
        exact ⟨u, rfl, b5 _ _ h fun z => by rw [z, s3 _ _ hacc] at h; cases h⟩
      · rintro acc H2 s2 hacc hal hI
        rw [Paired.length hP1, List.take_length] at hI
        have p2 := s2 _ _ p1
        refine ⟨_, rfl, p, _, dx, _, rfl, p2, cl_Garden T, na_Garden_seed_list T, (by show 1 < 1000; decide), ?_⟩
        have pD : D ≠ p := fun z => by rw [z, p1] at hD; cases hD
        have hD0 : H' D = none := by
          cases q : H' D with
          | none => rfl
          | some o => rw [b1 _ _ q pD] at hD; cases hD
        have b2 : But p H' (upd H2 p (.ins (cG K) dx (putF "seed_list" (.ref D) (putF "days_number" (.int d) [])))) := (b1.trans (But.of s2)).upd
        refine k _ b2 ⟨dx, D, acc, hD0, ?_, by rw [upd_ne pD]; exact hacc, Paired.mapP hI fun _ _ z => ?_⟩
        · rw [upd_same]
          have e : ¬ (("days_number" : Str) = "seed_list") := by decide +kernel
          show some (HO.ins (cG K) dx (if ("days_number" : Str) = "seed_list" then _ else _)) = _
          rw [if_neg e]
          rfl
        · obtain ⟨u, rfl, h⟩ := z
          exact ⟨u, rfl, by rw [upd_ne fun z => by rw [z, p2] at h; cases h]; exact h⟩
end
end K04
end
section
set_option maxRecDepth 100000
set_option maxHeartbeats 4000000
namespace K04
open PySem PySem.Spec PyProof.Rows L2
/-- a window within the days -/
def VW (T : Int) (c : Int × Int) : Prop := 1 ≤ c.1 ∧ c.1 ≤ c.2 ∧ c.2 ≤ T
theorem fbadW_ok {T : Int} : ∀ (ws : List (Int × Int)) (k : Int), (∀ c ∈ ws, VW T c) → fbadW T k ws = 0
  | [], _, _ => rfl
  | c :: r, k, h => by
    unfold fbadW
    have hc := h c List.mem_cons_self
    unfold VW at hc
    rw [if_neg (by simp [badW]; omega)]
    exact fbadW_ok r (k + 1) fun d hd => h d (List.mem_cons_of_mem _ hd)
theorem fbadW_app {T : Int} {w : Int × Int} {r : List (Int × Int)} (hw : badW T w = true) : ∀ (cs : List (Int × Int)) (k : Int), (∀ c ∈ cs, VW T c) → fbadW T k (cs ++ w :: r) = k + cs.length
  | [], k, _ => by
    show fbadW T k (w :: r) = _
    unfold fbadW
    rw [if_pos hw]
    simp
  | c :: t, k, h => by
    show fbadW T k (c :: (t ++ w :: r)) = _
    unfold fbadW
    have hc := h c List.mem_cons_self
    unfold VW at hc
    rw [if_neg (by simp [badW]; omega), fbadW_app hw t (k + 1) fun d hd => h d (List.mem_cons_of_mem _ hd)]
    rw [List.length_cons]
    omega
/-- what making a garden of these may raise -/
structure GErr (K : PySem.W.Frag) (E : XK) (H : Hp) (d : Int) (ws : List (Int × Int)) : Prop where
  days : 24 < d → Rz E H (cTM K) "what" (.str "days")
  seeds : d ≤ 24 → 120 < ws.length → Rz E H (cTM K) "what" (.str "seeds")
  none : d < 1 → ws.length ≤ 120 → Rz E H (cBG K) "row" (.int 0)
  row : 1 ≤ d → d ≤ 24 → ws.length ≤ 120 → fbadW d 1 ws ≠ 0 → Rz E H (cBG K) "row" (.int (fbadW d 1 ws))
theorem Rz.up {E : XK} {H H1 : Hp} {C : Addr} {f : Str} {v : V} (r : Rz E H C f v) (e : Same H H1) : Rz E H1 C f v := fun d H' s hd => r d H' (e.trans s) hd
theorem GErr.up {K : PySem.W.Frag} {E : XK} {H H1 : Hp} {d : Int} {ws : List (Int × Int)} (g : GErr K E H d ws) (e : Same H H1) : GErr K E H1 d ws :=
  ⟨fun h => Rz.up (g.days h) e, fun h h' => Rz.up (g.seeds h h') e, fun h h' => Rz.up (g.none h h') e, fun h h' h2 h3 => Rz.up (g.row h h' h2 h3) e⟩
theorem GErr.ok {K : PySem.W.Frag} {E : XK} {H : Hp} {d : Int} {ws : List (Int × Int)} (h1 : 1 ≤ d) (h2 : d ≤ 24) (h3 : ws.length ≤ 120) (h4 : ∀ c ∈ ws, VW d c) : GErr K E H d ws :=
  ⟨fun h => by omega, fun _ h => by omega, fun h => by omega, fun _ _ _ h => absurd (fbadW_ok ws 1 h4) h⟩
/-- the making, from what is handed in -/
theorem made {K : PySem.W.Frag} {E : XK} {Q : VK} {H : Hp} {s : Addr} {ys : List V} {ws : List (Int × Int)} {d : Int} (hS : H s = some (.lst ys)) (hP : Paired (PairT H) ys ws) (hl : ys.length ≤ 1000) (g : GErr K E H d ws)
    (k : 1 ≤ d → d ≤ 24 → ws.length ≤ 120 → fbadW d 1 ws = 0 → ∀ x H', H x = none → Same H H' → GardenN K H H' x d ws → Q (.ref x) H') :
    ∀ x dx, H x = none → H dx = none → dx ≠ x → spGInit K (.ref x :: ([.int d, .ref s] ++ [])) (upd (upd H dx (.own x)) x (.ins (cG K) dx [])) (fun v H2 => v = .non ∧ Q (.ref x) H2) E := by
  intro x dx hx hdx hne
  have s1 : Same H (upd (upd H dx (.own x)) x (.ins (cG K) dx [])) := same_mut (same_new hdx) hx
  have g1 := g.up s1
  refine ⟨x, dx, d, s, ys, ws, rfl, upd_same, s1 _ _ hS, Paired.mapP hP fun _ _ z => z.same s1, hl, g1.days, g1.seeds, g1.none, g1.row, fun h1 h2 h3 h4 H' b hg => ⟨rfl, k h1 h2 h3 h4 x H' hx (fun c o hc => b c o (s1 c o hc) (ne_of_none hc hx)) (hg.dn s1)⟩⟩
section
variable {P : Program} {w : World} {K : PySem.W.Frag} {mg : Str → Option Value} {base : Heap}
def spGCut (K : PySem.W.Frag) : Sp := fun vs H Q E => ∃ p T ws d, vs = [.ref p, .int d] ∧ GardenAt K H p T ws ∧ T ≤ 24 ∧ ws.length ≤ 120 ∧ (∀ c ∈ ws, VW T c) ∧ (¬ (1 ≤ d ∧ d ≤ T) → Rz E H (cBD K) "day" (.int d)) ∧
  (1 ≤ d → d ≤ T → ∀ x H', H x = none → Same H H' → GardenAt K H' x d (ws.filter fun c => decide (c.2 ≤ d)) → Q (.ref x) H')
theorem okm_Garden_cut (T : Txt w K mg) : OkM P w K mg base (L2.CX P w) 7 (cG K) "cut" ["self", "day"] (spGCut K) := by
  refine OkM.defX (fm_Garden_cut T) (me_Garden_cut T) (fun _ _ _ _ _ _ us hl => match us, hl with | [_, _], _ => rfl) sc_Garden_cut (fun vs H Q E h => ?_) (fun cdv A outer s H vs Q E hr h tk => ?_)
  · obtain ⟨p, TT, ws, d, rfl, _⟩ := h
    rfl
  · obtain ⟨p, TT, ws, d, rfl, ⟨dx, l, xs, h1, h2, h3⟩, hT, hl, hV, k1, k2⟩ := h
    have hxl : xs.length ≤ 120 := by rw [Paired.length h3]; exact hl
    refine ⟨_, (pss_cons (ps_expr (pe_okS (ok_check_day T) (hr.mono (by first | decide | omega)) rfl (fun σ => passAt tk σ) (pa_cons (pv 1) (pa_cons pe_int (pa_cons (pe_fld (pv 0) rfl) pa_nil)))))
      (pss_one (ps_ret (pe_okK (okk_Garden T) (hr.mono (by first | decide | omega)) rfl (passes_call tk (fun _ _ _ _ h => h)) (pa_cons (pv 1) (pa_cons (pe_lc (own := [("row", 2)]) rfl sc_Garden_cut.nd (pi_listK (K := K) rfl (pe_fld (pv 0) rfl)) (blkOk_by (N := ["self", "day", "row"]) (sc := defScope s_Garden_cut) (by decide +kernel)) (fun _ _ _ _ _ => (pg_name (i := 2) sc_Garden_cut.nd rfl (by first | exact Or.inl rfl | exact Or.inr rfl))) (fun _ _ _ _ _ => pts_one (pt_cmpR op_le (pe_ix (ix_seqK (K := K) rfl) (pv 2) pe_int (fun _ _ => rfl)) (pv 1) (nomark _))) (fun _ _ _ _ _ => (pv 2))) pa_nil)))))), ?_⟩
    refine ⟨_, rfl, _, rfl, p, _, dx, _, _, rfl, h1, cl_Garden T, na_Garden_days_number T, gf_days TT l, d, 1, TT, rfl, fun q1 q2 => ?_, k1⟩
    refine ⟨_, rfl, _, rfl, p, _, dx, _, _, rfl, h1, cl_Garden T, na_Garden_seed_list T, gf_seeds TT l, l, rfl, ⟨_, SqL.of h2⟩, fun D hD => lc_acc (K := K) (a := l) (xs := xs) hD (SqL.of h2) (by omega) (fun j acc H2 => Paired (PairT H2) acc ((ws.take j).filter fun c => decide (c.2 ≤ d))) (fun _ _ => .nil) ?_ ?_⟩
    · rintro j x acc H2 N N0 hx s2 hacc hI hN hN0
      obtain ⟨c, hc, hr⟩ := paired_get h3 hx
      have hr := hr.same s2
      refine ⟨rfl, ?_⟩
      refine ⟨_, rfl, hr.i1 ⟨_, rfl, _, _, rfl, rfl, _, rfl, ?_⟩⟩
      have keep : ∀ H5, But D H2 H5 → ∀ {x : V} {c : Int × Int}, PairT H2 x c → PairT H5 x c := fun H5 b5 {x c} z => by
        obtain ⟨u, rfl, h⟩ := z
        exact ⟨u, rfl, b5 _ _ h fun z => by rw [z, hacc] at h; cases h⟩
      refine ite2 (fun q => ?_) (fun q => ?_)
      · refine ⟨_, rfl, hN _ _ (Same.refl _) fun H5 b5 _ => ?_⟩
        rw [take_get hc, List.filter_append, List.filter_cons, if_pos q]
        exact paired_snoc (Paired.mapP hI fun _ _ z => keep H5 b5 z) (keep H5 b5 hr)
      · refine hN0 _ (Same.refl _) ?_
        rw [take_get hc, List.filter_append, List.filter_cons, if_neg q]
        show Paired _ acc (_ ++ [])
        rw [List.append_nil]
        exact hI
    · rintro acc H2 s2 hacc hal hI
      rw [Paired.length h3, List.take_length] at hI
      have hfl : (ws.filter fun c => decide (c.2 ≤ d)).length ≤ 120 := Nat.le_trans (List.length_filter_le _ _) hl
      have hfv : ∀ c ∈ ws.filter fun c => decide (c.2 ≤ d), VW d c := fun c hc => by
        obtain ⟨h, h'⟩ := List.mem_filter.mp hc
        have := of_decide_eq_true h'
        have := hV c h
        unfold VW at this ⊢
        omega
      exact made hacc hI (by omega) (GErr.ok q1 (by omega) hfl hfv) fun _ _ _ _ x H' hx s' hg => k2 q1 q2 x H' (by
        cases q : H x with
        | none => rfl
        | some o => rw [s2 _ _ q] at hx; cases hx) (s2.trans s') hg.at
def spGWith (K : PySem.W.Frag) : Sp := fun vs H Q E => ∃ p T ws b ys ms, vs = [.ref p, .ref b] ∧ GardenAt K H p T ws ∧ H b = some (.lst ys) ∧ Paired (PairT H) ys ms ∧ ws.length ≤ 300 ∧ ms.length ≤ 300 ∧ GErr K E H T (ws ++ ms) ∧
  (1 ≤ T → T ≤ 24 → (ws ++ ms).length ≤ 120 → fbadW T 1 (ws ++ ms) = 0 → ∀ x H', H x = none → Same H H' → GardenN K H H' x T (ws ++ ms) → Q (.ref x) H')
theorem okm_Garden_with_seeds (T : Txt w K mg) : OkM P w K mg base (L2.CX P w) 7 (cG K) "with_seeds" ["self", "windows"] (spGWith K) := by
  refine OkM.defX (fm_Garden_with_seeds T) (me_Garden_with_seeds T) (fun _ _ _ _ _ _ us hl => match us, hl with | [_, _], _ => rfl) sc_Garden_with_seeds (fun vs H Q E h => ?_) (fun cdv A outer s H vs Q E hr h tk => ?_)
  · obtain ⟨p, TT, ws, b, ys, ms, rfl, _⟩ := h
    rfl
  · obtain ⟨p, TT, ws, b, ys, ms, rfl, ⟨dx, l, xs, h1, h2, h3⟩, hb, hP, hl, hml, g, k⟩ := h
    have hxl : xs.length ≤ 300 := by rw [Paired.length h3]; exact hl
    have hyl : ys.length ≤ 300 := by rw [Paired.length hP]; exact hml
    refine ⟨_, (pss_one (ps_ret (pe_okK (okk_Garden T) (hr.mono (by first | decide | omega)) rfl (passes_call tk (fun _ _ _ _ h => h)) (pa_cons (pe_fld (pv 0) rfl) (pa_cons (pe_op op_cat (pe_fld (pv 0) rfl) (pe_lc (own := [("first", 2), ("last", 3)]) rfl sc_Garden_with_seeds.nd (pi_listK (K := K) rfl (pv 1)) (blkOk_by (N := ["self", "windows", "first", "last"]) (sc := defScope s_Garden_with_seeds) (by decide +kernel)) (fun _ _ _ _ _ => (pg_tupK (K := K) (n := 2) rfl rfl (pgs_cons (pg_name (i := 2) sc_Garden_with_seeds.nd rfl (by first | exact Or.inl rfl | exact Or.inr rfl)) (pgs_cons (pg_name (i := 3) sc_Garden_with_seeds.nd rfl (by first | exact Or.inl rfl | exact Or.inr rfl)) pgs_nil)))) (fun _ _ _ _ _ => pts_nil) (fun _ _ _ _ _ => (pe_tup (pa_cons (pv 2) (pa_cons (pv 3) pa_nil)))))) pa_nil))))), ?_⟩
    refine ⟨_, rfl, p, _, dx, _, _, rfl, h1, cl_Garden T, na_Garden_days_number T, gf_days TT l, ?_⟩
    refine ⟨_, rfl, p, _, dx, _, _, rfl, h1, cl_Garden T, na_Garden_seed_list T, gf_seeds TT l, ?_⟩
    refine ⟨_, rfl, b, rfl, ⟨_, SqL.of hb⟩, fun D hD => lc_acc (K := K) (a := b) (xs := ys) hD (SqL.of hb) (by omega) (fun j acc H2 => Paired (PairT H2) acc (ms.take j)) (fun _ _ => .nil) ?_ ?_⟩
    · rintro j x acc H2 N N0 hx s2 hacc hI hN hN0
      obtain ⟨c, hc, hr⟩ := paired_get hP hx
      refine (hr.same s2).un rfl ⟨rfl, ?_⟩
      refine ⟨_, rfl, _, rfl, (by show 2 ≤ sizeLine; decide), fun t ht => ?_⟩
      obtain ⟨s3, g3⟩ := new2 (.tup [V.int c.1, V.int c.2]) ht
      have tD : t ≠ D := fun z => by rw [z, hacc] at ht; cases ht
      refine hN _ _ s3 fun H5 b5 _ => ?_
      rw [take_get hc]
      refine paired_snoc (Paired.mapP hI fun _ _ z => ?_) ⟨t, rfl, b5 _ _ g3 tD⟩
      obtain ⟨u, rfl, h⟩ := z.same s3
      exact ⟨u, rfl, b5 _ _ h fun z => by rw [z, s3 _ _ hacc] at h; cases h⟩
    · rintro acc H2 s2 hacc hal hI
      rw [Paired.length hP, List.take_length] at hI
      refine ⟨l, D, xs, acc, rfl, rfl, s2 _ _ h2, hacc, line_of (by omega), fun m hm => ?_⟩
      obtain ⟨s3, g3⟩ := new2 (.lst (xs ++ acc)) hm
      have s23 := s2.trans s3
      have hP2 := paired_app (Paired.mapP h3 fun _ _ z => z.same s23) (Paired.mapP hI fun _ _ z => z.same s3)
      refine made g3 hP2 (by rw [List.length_append]; omega) (g.up s23) fun q1 q2 q3 q4 x H' hx s' hg => k q1 q2 q3 q4 x H' (by
        cases q : H x with
        | none => rfl
        | some o => rw [s23 _ _ q] at hx; cases hx) (s23.trans s') (hg.dn s23)
end
end K04
end
section
set_option maxRecDepth 100000
set_option maxHeartbeats 4000000
namespace K04
open PySem PySem.Spec PyProof.Rows L2
section
variable {P : Program} {w : World} {K : PySem.W.Frag} {mg : Str → Option Value} {base : Heap}
def spWin : Sp := fun vs H Q _ => ∃ (sa : Addr) (d many : Int), vs = [.ref sa, .int d, .int many] ∧ 1 ≤ d ∧ d ≤ 24 ∧ 0 ≤ many ∧ many ≤ 200 ∧ Stk H sa ∧
  ∀ l (xs : List V) (ws : List (Int × Int)) H', H l = none → But sa H H' → Stk H' sa → H' l = some (.lst xs) → Paired (PairT H') xs ws → ws.length = many.toNat → (∀ c ∈ ws, VW d c) → Q (.ref l) H'
theorem ok__law_b_windows (T : Txt w K mg) : Ok P w K mg base CX0 2 "_law_b_windows" ["stock", "days", "many"] spWin := by
  refine Ok.def0 (f__law_b_windows T) (fun _ _ _ _ _ _ us hl => match us, hl with | [_, _, _], _ => rfl) sc__law_b_windows (fun vs H Q E h => ?_) (fun f cdv A outer s H vs Q E hr h => ?_)
  · obtain ⟨sa, d, many, rfl, _⟩ := h
    rfl
  · obtain ⟨sa, d, many, rfl, h1, h2, hm0, hm, hs, k⟩ := h
    refine ⟨_, (pss_cons (ps_set (i := 3) sc__law_b_windows.nd rfl (by first | exact Or.inl rfl | exact Or.inr rfl) (pe_lst pa_nil))
      (pss_cons (ps_for PassesOwn.never rfl (pi_range1 rfl (n_range T) (pa_cons (pv 2) pa_nil)) (pg_name (i := 4) sc__law_b_windows.nd rfl (by first | exact Or.inl rfl | exact Or.inr rfl))
        (pss_cons (ps_set (i := 5) sc__law_b_windows.nd rfl (by first | exact Or.inl rfl | exact Or.inr rfl) (pe_ok (ok__law_draw T) (hr.mono (by first | decide | omega)) rfl pass0 (pa_cons (pv 0) (pa_cons pe_int pa_nil))))
      (pss_cons (ps_set (i := 6) sc__law_b_windows.nd rfl (by first | exact Or.inl rfl | exact Or.inr rfl) (pe_op op_add pe_int (pe_ok (ok__law_draw T) (hr.mono (by first | decide | omega)) rfl pass0 (pa_cons (pv 0) (pa_cons (pv 1) pa_nil)))))
      (pss_cons (ps_set (i := 7) sc__law_b_windows.nd rfl (by first | exact Or.inl rfl | exact Or.inr rfl) (pe_callB (call_min2 rfl) rfl (n_min T) (by decide +kernel) (pa_cons (pv 1) (pa_cons (pe_op op_add (pv 6) (pe_ok (ok__law_draw T) (hr.mono (by first | decide | omega)) rfl pass0 (pa_cons (pv 0) (pa_cons pe_int pa_nil)))) pa_nil))))
      (pss_cons (ps_if (PW.pt (pw_and (pt_cmpR op_eq (pv 5) pe_int (nomark _)) (pw_and1 (pt_cmpR op_gt (pe_callB (len_seqK (K := K) rfl) rfl (n_len T) (by decide +kernel) (pa_cons (pv 3) pa_nil)) pe_int (nomark _))))) (pss_one (ps_asg (pe_ix (ix_listK (K := K) rfl) (pv 3) (pe_ok (ok__law_draw T) (hr.mono (by first | decide | omega)) rfl pass0 (pa_cons (pv 0) (pa_cons (pe_callB (len_seqK (K := K) rfl) rfl (n_len T) (by decide +kernel) (pa_cons (pv 3) pa_nil)) pa_nil))) (fun _ _ => rfl)) (pg_tupK (K := K) (n := 2) rfl rfl (pgs_cons (pg_name (i := 6) sc__law_b_windows.nd rfl (by first | exact Or.inl rfl | exact Or.inr rfl)) (pgs_cons (pg_name (i := 7) sc__law_b_windows.nd rfl (by first | exact Or.inl rfl | exact Or.inr rfl)) pgs_nil))))) (pss_one (ps_if (pt_cmpR op_eq (pv 5) pe_int (nomark _)) (pss_one (ps_set (i := 7) sc__law_b_windows.nd rfl (by first | exact Or.inl rfl | exact Or.inr rfl) (pv 1))) (pss_one (ps_if (pt_cmpR op_eq (pv 5) pe_int (nomark _)) (pss_one (ps_set (i := 7) sc__law_b_windows.nd rfl (by first | exact Or.inl rfl | exact Or.inr rfl) (pv 6))) pss_nil)))))
      (pss_one (ps_expr (pe_bm PySem.F.plainAttrs_list PySem.F.slot_list_append PySem.F.type_list_append mt_append (pv 3) (pa_cons (pe_tup (pa_cons (pv 6) (pa_cons (pv 7) pa_nil))) pa_nil)))))))))
      (pss_one (ps_ret (pv 3))))), ?_⟩
    refine ⟨(by show 0 ≤ sizeLine; decide), fun l hl => ?_⟩
    obtain ⟨s1, g1⟩ := new2 (.lst []) hl
    have lsa : l ≠ sa := fun z => hs.ne (z ▸ hl)
    refine ⟨_, rfl, _, rfl, by omega, by omega, for_upto (lo := 0) (L := many.toNat) rfl (fun i σ H' => ∃ v4 v5 v6 v7 xs ws, σ = [some (.ref sa), some (.int d), some (.int many), some (.ref l), v4, v5, v6, v7] ∧ But sa H H' ∧ Stk H' sa ∧ H' l = some (.lst xs) ∧ Paired (PairT H') xs ws ∧ ws.length = i ∧ ∀ c ∈ ws, VW d c) ⟨_, _, _, _, [], [], rfl, But.of s1, hs.same s1, g1, .nil, rfl, (fun c hc => by cases hc)⟩ ?_ ?_⟩
    · rintro i σ H' hi ⟨v4, v5, v6, v7, xs, ws, rfl, b, hst, hL, hP, hwl, hV⟩
      have hxl : xs.length = i := by rw [Paired.length hP, hwl]
      refine ⟨_, rfl, sa, 5, rfl, by decide, by decide, hst, fun kd x y z r0 r1 => ?_⟩
      refine ⟨_, rfl, _, rfl, sa, d, rfl, by omega, by omega, stk_upd, fun fr x1 y1 z1 r2 r3 => ⟨_, _, rfl, rfl, ?_⟩⟩
      refine ⟨_, rfl, _, rfl, _, rfl, sa, 4, rfl, by decide, by decide, stk_upd, fun dr x2 y2 z2 r4 r5 => ⟨_, _, rfl, rfl, _, _, rfl, ?_⟩⟩
      rw [min2]
      have b3 : But sa H' (upd (upd (upd H' sa (stk x y z)) sa (stk x1 y1 z1)) sa (stk x2 y2 z2)) := (But.refl sa H').upd.upd.upd
      have hst3 : Stk (upd (upd (upd H' sa (stk x y z)) sa (stk x1 y1 z1)) sa (stk x2 y2 z2)) sa := stk_upd
      generalize upd (upd (upd H' sa (stk x y z)) sa (stk x1 y1 z1)) sa (stk x2 y2 z2) = H3 at b3 hst3 ⊢
      refine nxE (seq_via (fun σ' H4 => ∃ f' l', σ' = [some (.ref sa), some (.int d), some (.int many), some (.ref l), some (.int (0 + (i : Int))), some (.int kd), some (.int f'), some (.int l')] ∧ VW d (f', l') ∧ But sa H' H4 ∧ Stk H4 sa) (fun U hU => ?_) ?_)
      · have hL3 := b3 _ _ hL lsa
        refine ⟨_, rfl, rfl, _, rfl, ?_⟩
        refine ite2 (fun c => ?_) (fun c => ?_)
        · refine ⟨_, rfl, _, _, rfl, .inl (SqL.of hL3), _, _, rfl, rfl, _, rfl, ?_⟩
          refine ite2 (fun c2 => ?_) (fun c2 => ?_)
          · have c2 := of_decide_eq_true c2
            refine ⟨_, rfl, _, rfl, _, rfl, _, _, rfl, .inl (SqL.of hL3), sa, (xs.length : Int), rfl, by omega, by omega, hst3, fun rj x3 y3 z3 r6 r7 => ?_⟩
            have b4 : But sa H' (upd H3 sa (stk x3 y3 z3)) := b3.upd
            obtain ⟨v, hv⟩ : ∃ v, xs[rj.toNat]? = some v := ⟨xs[rj.toNat]'(by omega), List.getElem?_eq_getElem (by omega)⟩
            obtain ⟨c', hc', hr⟩ := paired_get hP hv
            have hr4 := hr.bx hst (Bx.of_but b4)
            refine ⟨l, xs, rj, v, rfl, rfl, SqL.of (b4 _ _ hL lsa), atI_int r6 hv, hr4.un rfl ?_⟩
            exact hU _ _ ⟨c'.1, c'.2, rfl, hV _ (List.mem_of_getElem? hc'), b4, stk_upd⟩
          · refine ⟨_, rfl, rfl, _, rfl, ite2 (fun c3 => ?_) (fun c3 => ⟨_, rfl, rfl, _, rfl, ite2 (fun c4 => ?_) (fun c4 => ?_)⟩)⟩
            · exact ⟨_, rfl, hU _ _ ⟨_, _, rfl, by unfold VW; refine ⟨?_, ?_, ?_⟩ <;> simp <;> omega, b3, hst3⟩⟩
            · exact ⟨_, rfl, hU _ _ ⟨_, _, rfl, by unfold VW; refine ⟨?_, ?_, ?_⟩ <;> simp <;> omega, b3, hst3⟩⟩
            · exact hU _ _ ⟨_, _, rfl, by unfold VW; refine ⟨?_, ?_, ?_⟩ <;> simp <;> omega, b3, hst3⟩
        · refine ⟨_, rfl, rfl, _, rfl, ite2 (fun c3 => ?_) (fun c3 => ⟨_, rfl, rfl, _, rfl, ite2 (fun c4 => ?_) (fun c4 => ?_)⟩)⟩
          · exact ⟨_, rfl, hU _ _ ⟨_, _, rfl, by unfold VW; refine ⟨?_, ?_, ?_⟩ <;> simp <;> omega, b3, hst3⟩⟩
          · exact ⟨_, rfl, hU _ _ ⟨_, _, rfl, by unfold VW; refine ⟨?_, ?_, ?_⟩ <;> simp <;> omega, b3, hst3⟩⟩
          · exact hU _ _ ⟨_, _, rfl, by unfold VW; refine ⟨?_, ?_, ?_⟩ <;> simp <;> omega, b3, hst3⟩
      · rintro σ4 H4 ⟨f', l', rfl, hvw, b4, hst4⟩
        have hL4 := b4 _ _ hL lsa
        refine ⟨_, rfl, .inl ⟨rfl, _, SqL.of hL4⟩, _, rfl, _, rfl, (by show 2 ≤ sizeLine; decide), fun p hp => ?_⟩
        obtain ⟨s5, g5⟩ := new2 (.tup [.int f', .int l']) hp
        have hL5 := s5 _ _ hL4
        refine ⟨l, xs, _, rfl, rfl, hL5, line_lt (by omega), ?_⟩
        refine ⟨_, _, _, _, xs ++ [V.ref p], ws ++ [(f', l')], rfl, (b.trans (b4.trans (But.of s5))).mut hl, (hst4.same s5).but lsa.symm, upd_same, ?_, by rw [List.length_append, hwl]; rfl, ?_⟩
        · exact paired_snoc (Paired.mapP hP fun _ _ z => ((z.bx hst (Bx.of_but b4)).same s5).mut hL5) (PairT.mut hL5 ⟨p, rfl, g5⟩)
        · intro c hc
          rcases List.mem_append.mp hc with hc | hc
          · exact hV c hc
          · rw [List.mem_singleton.mp hc]; exact hvw
    · rintro σ H' ⟨v4, v5, v6, v7, xs, ws, rfl, b, hst, hL, hP, hwl, hV⟩
      exact ⟨_, rfl, k l xs ws H' hl b hst hL hP hwl hV⟩
end
end K04
end
section
set_option maxRecDepth 100000
set_option maxHeartbeats 4000000
namespace L2
open PySem PySem.Spec PyProof.Rows
/-! ### the handled exception asked for one of several classes -/
section
variable {X : Cx} {p : Addr × Obj} {d : Option Addr} {D : Addr}
def rIsDT (K : PySem.W.Frag) (D a d : Addr) : List V → Hp → VK → Prop := fun xs H Q => ∃ (tp : Addr) (cs : List V) (us : List Value) (b : Bool) (fs : List (Str × V)), xs = [.ref a, .ref tp] ∧ H tp = some (.tup cs) ∧ Paired ClsV cs us ∧ H d = some (.xd fs) ∧ PySem.W.kitAny K (.ref D) us = some b ∧ Q (.bl b) H
theorem call_isDT {d : Addr} (hp : p ∈ X.pn) (T : ExcC X.K D) (hz : Zc (.ref D) (some d) p.2) (hf : ∃ vs, p.2.data = .fields vs) : CallR X (.builtin "isinstance") (rIsDT X.K D p.1 d) := by
  intro pins s σ H xs us Q I r h
  obtain ⟨tp, cs, ws, b, fs, rfl, hT, k, hd, hk, q⟩ := h
  obtain ⟨u1, u2, rfl, r1, r2⟩ := vals2 r
  obtain rfl : u1 = Value.ref p.1 := r1
  obtain rfl : u2 = Value.ref tp := r2
  obtain ⟨mA, hns, _⟩ := (show ObjOk X.prog X.w H s.heap d (.xd fs) from I.hok d _ hd)
  obtain ⟨od, hod, _⟩ := lookIn_ns hns
  obtain ⟨vs, hdat⟩ := hf
  have at_ : PySem.W.InstAt s.heap p.1 p.2 D (some od) := ⟨(I.pin p (List.mem_append_left _ hp)).1, hz.1, by unfold PySem.W.notCls; rw [hdat] <;> rfl, by rw [hz.2]; exact hod⟩
  obtain ⟨cd, hc, _⟩ := PySem.W.any_some T.hd
  obtain ⟨_, its, rv, o, h1, h2, n, h3⟩ := (show ObjOk X.prog X.w H s.heap tp (.tup cs) from I.hok tp _ hT)
  have e3 := ClsV.all k rv
  subst e3
  obtain ⟨oc, odd, dt, sl⟩ := o
  simp only at h2 h3
  subst h2 h3
  exact PySem.W.kia_tup (PySem.W.kitx_exc (gt := none) (by rw [hc]; rfl) T.hg T.hk T.hs T.ha T.hn T.ht T.hm) I.kIn at_ h1 hk (fun z => nomatch z) fun tk => ⟨.bl b, H, I.tok tk, rfl, q⟩
end
end L2
end
section
set_option maxRecDepth 100000
set_option maxHeartbeats 4000000
namespace L2
open PySem PySem.Spec PyProof.Rows
/-! ### sorted(xs), xs a list of any number of tuples of d ints in [0, B) -/
section
variable {prog : Program} {w : World} {A : Around} {s : Shared}
theorem swoR (r : Value → Int) : SrtO.Swo fun v u => decide (r v < r u) :=
  ⟨fun x y h => decide_eq_false (by have := of_decide_eq_true h; omega), fun x y z h1 h2 => decide_eq_false (by
    have a := of_decide_eq_false h1
    have b := of_decide_eq_false h2
    omega)⟩
/-- two tuples compare as their codes do -/
theorem cmpU {d : Nat} {B : Int} {vs : List Value} (hx : TS.TupsOk s.heap d B vs) (r : Value → Int) (hr : ∀ v ∈ vs, ∀ ns, TS.TupInts s.heap v ns → r v = TS.code B ns) :
    SrtO.Cmp prog w A s (tuples' true) (fun p => p.1 ∈ vs) (SrtO.lt2 fun v u => decide (r v < r u)) := by
  intro p q hp hq
  obtain ⟨ns, T1, n1, b1⟩ := hx _ hp
  obtain ⟨ms, T2, n2, b2⟩ := hx _ hq
  have e : (decide (TS.code B ns < TS.code B ms)) = SrtO.lt2 (fun v u => decide (r v < r u)) p q := by
    show _ = decide (r p.1 < r q.1)
    rw [hr _ hp _ T1, hr _ hq _ T2]
  obtain ⟨a1, l1, e1, ⟨o1, g1, c1, k1, h1⟩, i1⟩ := T1
  obtain ⟨a2, l2, e2, ⟨o2, g2, c2, k2, h2⟩, i2⟩ := T2
  have z1 := i1.length
  have z2 := i2.length
  rw [Array.length_toList] at z1 z2
  rw [e1, e2]
  refine PySem.W.kat_lt g1 h1 g2 h2 ?_
  have z : decide (l1.size < l2.size) = false := decide_eq_false (by omega)
  rw [z]
  exact TS.lex_ints 0 i1 i2 (n1.trans n2.symm) b1 b2 ⟨rfl, e⟩
theorem sortableU {d : Nat} {B : Int} {a : Addr} {vs : List Value} (hd : 1 ≤ d) (h0 : 0 < vs.length) (hx : TS.TupsOk s.heap d B vs) (ha : ∀ o, s.heap.get? a = some o → o.cls ≠ .type "tuple")
    (r : Value → Int) (hr : ∀ v ∈ vs, ∀ ns, TS.TupInts s.heap v ns → r v = TS.code B ns) : SrtO.SortableO prog w A s a vs fun v u => decide (r v < r u) := by
  intro h' keep
  have kp : ∀ b o, s.heap.get? b = some o → o.cls = .type "tuple" → h'.get? b = some o := fun b o g c => keep b o (fun z => ha o (z ▸ g) c) g
  have hx' := hx.keeps kp
  refine ⟨tuples' true, fun Q E hq => ?_, cmpU (s := { s with heap := h' }) hx' r fun v hv ns T => ?_⟩
  · obtain ⟨fs, k, hl, hi⟩ := TS.firsts_of hd vs hx'
    refine PySem.W.kat_kind (T := Value.type "int") k (by omega) (fun f hf => ?_) rfl hq
    obtain ⟨n, t, rfl⟩ := hi f hf
    exact PySem.W.Looks.of_pure rfl
  · obtain ⟨ms, T2, _⟩ := hx v hv
    rw [T.ints.symm.trans (T2.keeps kp).ints]
    exact hr v hv ms T2
end
section
variable {X : Cx} {pins : List (Addr × Obj)} {σ : St} {H : Hp} {s : Shared}
def rSortV (K : PySem.W.Frag) (d : Nat) (B : Int) : List V → Hp → VK → Prop := fun vs H Q => ∃ (a : Addr) (xs : List V), vs = [V.ref a] ∧ SqL K H a xs ∧ (∀ x ∈ xs, ∃ ns, TupI K H x ns ∧ ns.length = d ∧ TS.Bd B ns) ∧
  ∀ (ys : List V) (p : Addr), ys.Perm xs → ys.Pairwise (fun x y => ∀ n m, TupI K H x n → TupI K H y m → TS.code B n ≤ TS.code B m) → H p = none → Q (.ref p) (upd H p (.lst ys))
theorem cr_sortV {d : Nat} {B : Int} (hd : 1 ≤ d) : CallR X (.builtin "sorted") (rSortV X.K d B) := by
  intro pins s σ H vs us Q I r h
  obtain ⟨a, xs, rfl, hs, hx, q⟩ := h
  obtain ⟨its, rv, hl, hz⟩ := I.list hs
  rw [Vals.ref1 r]
  have hlz : its.length ≤ sizeLine := by rw [← rv.length]; exact hz
  obtain ⟨e1, e2⟩ := bkV_refs rv fun x m => by
    obtain ⟨ns, ⟨t, e, _⟩, _⟩ := hx x m
    exact ⟨t, e⟩
  have ok : TS.TupsOk s.heap d B its := fun v hv => by
    obtain ⟨t, rfl⟩ := e2 v hv
    obtain ⟨ns, ⟨t', e, ht⟩, hn, hb⟩ := hx (.ref t) (by rw [e1]; exact List.mem_map.mpr ⟨_, hv, rfl⟩)
    cases e
    exact ⟨ns, tupI_raw I ht, hn, hb⟩
  refine SrtO.sorted_ord (swoR fun v => TS.code B (TS.intsOf s.heap v)) hl.isList hlz (fun h2 h₁ b hb kk => ?_) fun out h1 h2 => ?_
  · refine sortableU (s := { s with heap := h₁ }) hd (by omega) (ok.keeps fun b o g _ => (kk b o g).2) (fun o g => ?_) _ fun v hv ns T => ?_
    · have z : some o = some (seqObj "list" its.toArray 0) := g.symm.trans hb
      cases z
      intro c
      exact absurd (Value.type.inj c) (by decide)
    · obtain ⟨ms, T2, _⟩ := ok v hv
      have z : ns = ms := T.ints.symm.trans (T2.keeps fun b o g _ => (kk b o g).2).ints
      rw [z]
      show TS.code B (TS.intsOf s.heap v) = _
      rw [T2.ints]
  · obtain ⟨ep, he⟩ := PyProof.Rows.sortedAll_at s.heap its out.toArray
    have pm := h2.perm
    have rf : ∀ u ∈ out, ∃ a, u = Value.ref a := fun u hu => e2 u (pm.mem_iff.mp hu)
    have hp : (out.map bkV).Perm xs := by
      rw [e1]
      exact pm.map bkV
    refine ⟨.ref _, upd H (s.heap.objs.size + 1) (.lst (out.map bkV)), I.laid (t' := s.toks) (fun _ _ => PyProof.Rows.sortedAll_old) (Nat.le_succ _) ⟨by rw [hp.length_eq]; exact hz, out, ep, bkV_vals rf, by simpa using he⟩, rfl, q _ _ hp ?_ (I.hok.fresh (Nat.le_succ _))⟩
    rw [List.pairwise_map]
    refine List.Pairwise.imp (fun {u v} huv n m hn hm => ?_) h1
    have z := of_decide_eq_false huv
    obtain ⟨t, et, ht⟩ := hn
    obtain ⟨t', et', ht'⟩ := hm
    have i1 : TS.intsOf s.heap u = n := by
      rw [bkV_ref et]
      exact (tupI_raw I ht).ints
    have i2 : TS.intsOf s.heap v = m := by
      rw [bkV_ref et']
      exact (tupI_raw I ht').ints
    rw [← i1, ← i2]
    omega
end
end L2
namespace L2
open PySem PySem.Spec PyProof.Rows
theorem sortedIK {X : Cx} {K : PySem.W.Frag} (h : X.K = K) : CallR X (.builtin "sorted") (rSortedI K) := h ▸ cr_sortedI
theorem sorted3K {X : Cx} {K : PySem.W.Frag} (h : X.K = K) : CallR X (.builtin "sorted") (rSortV K 3 2000) := h ▸ cr_sortV (by decide)
end L2
namespace L2
theorem du {n m : Nat} (h : n + 64 < m) : n + 1 < m := by omega
end L2
end
section
set_option maxRecDepth 100000
set_option maxHeartbeats 4000000
namespace L2
open PySem PySem.Spec PyProof.Rows
/-! ### triples of ints, and the sorted ones -/
abbrev T3 := Int × Int × Int
def Trip (H : Hp) (x : V) (c : T3) : Prop := ∃ t, x = .ref t ∧ H t = some (.tup [.int c.1, .int c.2.1, .int c.2.2])
theorem Trip.same {H H' : Hp} {x : V} {c : T3} (e : Same H H') (h : Trip H x c) : Trip H' x c := by
  obtain ⟨t, rfl, h⟩ := h
  exact ⟨t, rfl, e _ _ h⟩
theorem Trip.tupI {K : PySem.W.Frag} {H : Hp} {x : V} {c : T3} (h : Trip H x c) : TupI K H x [c.1, c.2.1, c.2.2] := by
  obtain ⟨t, rfl, h⟩ := h
  exact ⟨t, rfl, SqT.of h⟩
def code3 (c : T3) : Int := c.1 * 4000000 + c.2.1 * 2000 + c.2.2
theorem code3_eq (c : T3) : TS.code 2000 [c.1, c.2.1, c.2.2] = code3 c := by
  show c.1 * 2000 ^ 2 + (c.2.1 * 2000 ^ 1 + (c.2.2 * 2000 ^ 0 + 0)) = _
  unfold code3
  omega
def B3 (c : T3) : Prop := (0 ≤ c.1 ∧ c.1 < 2000) ∧ (0 ≤ c.2.1 ∧ c.2.1 < 2000) ∧ (0 ≤ c.2.2 ∧ c.2.2 < 2000)
theorem B3.bd {c : T3} (h : B3 c) : TS.Bd 2000 [c.1, c.2.1, c.2.2] := by
  intro m hm
  obtain ⟨a, b, d⟩ := h
  simp at hm
  rcases hm with rfl | rfl | rfl
  · exact a
  · exact b
  · exact d
theorem code3_inj {c d : T3} (hc : B3 c) (hd : B3 d) (e : code3 c = code3 d) : c = d := by
  obtain ⟨a, b, x⟩ := c
  obtain ⟨a', b', x'⟩ := d
  unfold code3 at e
  simp only [B3] at hc hd e
  have : a = a' ∧ b = b' ∧ x = x' := by omega
  obtain ⟨rfl, rfl, rfl⟩ := this
  rfl
def srt3 (cs : List T3) : List T3 := cs.mergeSort fun a b => decide (code3 a ≤ code3 b)
theorem srt3_of {cs ds : List T3} (h : ∀ c ∈ cs, B3 c) (p : ds.Perm cs) (s : ds.Pairwise fun a b => code3 a ≤ code3 b) : ds = srt3 cs := by
  have q := List.mergeSort_perm cs fun a b => decide (code3 a ≤ code3 b)
  refine List.Perm.eq_of_pairwise (le := fun a b => code3 a ≤ code3 b) (fun a b ha hb h1 h2 => ?_) s ?_ (p.trans q.symm)
  · exact code3_inj (h _ (p.mem_iff.mp ha)) (h _ (q.mem_iff.mp hb)) (by omega)
  · refine List.Pairwise.imp (fun {a b} z => of_decide_eq_true z) (List.pairwise_mergeSort (fun a b c h1 h2 => ?_) (fun a b => ?_) cs)
    · have x := of_decide_eq_true h1
      have y := of_decide_eq_true h2
      exact decide_eq_true (by omega)
    · by_cases z : code3 a ≤ code3 b
      · simp [z]
      · have : code3 b ≤ code3 a := by omega
        simp [this]
def srtI (ns : List Int) : List Int := ns.mergeSort fun a b => decide (a ≤ b)
theorem srtI_of {ns ms : List Int} (p : ms.Perm ns) (s : ms.Pairwise (· ≤ ·)) : ms = srtI ns := by
  have q := List.mergeSort_perm ns fun a b => decide (a ≤ b)
  refine List.Perm.eq_of_pairwise (le := fun a b => a ≤ b) (fun a b ha hb h1 h2 => by omega) s ?_ (p.trans q.symm)
  refine List.Pairwise.imp (fun {a b} z => of_decide_eq_true z) (List.pairwise_mergeSort (fun a b c h1 h2 => ?_) (fun a b => ?_) ns)
  · have x := of_decide_eq_true h1
    have y := of_decide_eq_true h2
    exact decide_eq_true (by omega)
  · by_cases z : a ≤ b
    · simp [z]
    · have : b ≤ a := by omega
      simp [this]
/-- what stands behind a list of values that are the triples, up to their order -/
theorem paired_perm {H : Hp} : ∀ {ys xs : List V}, ys.Perm xs → ∀ {cs : List T3}, Paired (Trip H) xs cs → ∃ ds, ds.Perm cs ∧ Paired (Trip H) ys ds := by
  intro ys xs p
  induction p with
  | nil => intro cs h; exact ⟨cs, List.Perm.refl _, h⟩
  | cons x p ih =>
    intro cs h
    cases h with
    | cons r t =>
      obtain ⟨ds, q, g⟩ := ih t
      exact ⟨_ :: ds, q.cons _, .cons r g⟩
  | swap x y l =>
    intro cs h
    cases h with
    | cons r t =>
      cases t with
      | cons r2 t2 => exact ⟨_ :: _ :: _, List.Perm.swap _ _ _, .cons r2 (.cons r t2)⟩
  | trans p q ih1 ih2 =>
    intro cs h
    obtain ⟨d1, p1, g1⟩ := ih2 h
    obtain ⟨d2, p2, g2⟩ := ih1 g1
    exact ⟨d2, p2.trans p1, g2⟩
theorem paired_pw {H : Hp} {R : V → V → Prop} {S : T3 → T3 → Prop} (f : ∀ x y c d, Trip H x c → Trip H y d → R x y → S c d) : ∀ {ys : List V} {ds : List T3}, Paired (Trip H) ys ds → ys.Pairwise R → ds.Pairwise S := by
  intro ys ds h
  induction h with
  | nil => intro _; exact .nil
  | cons r t ih =>
    intro pw
    rw [List.pairwise_cons] at pw ⊢
    refine ⟨fun d hd => ?_, ih pw.2⟩
    obtain ⟨i, hi⟩ := List.mem_iff_getElem?.mp hd
    have hl := Paired.length t
    obtain ⟨y, hy⟩ : ∃ y, _[i]? = some y := ⟨_, List.getElem?_eq_getElem (by rw [hl]; exact (List.getElem?_eq_some_iff.mp hi).1)⟩
    obtain ⟨c', hc', hr⟩ := paired_get t hy
    rw [hi] at hc'
    cases hc'
    exact f _ _ _ _ r hr (pw.1 _ (List.mem_of_getElem? hy))
theorem sorted3 {K : PySem.W.Frag} {H : Hp} {xs ys : List V} {cs : List T3} (hP : Paired (Trip H) xs cs) (hb : ∀ c ∈ cs, B3 c) (p : ys.Perm xs) (s : ys.Pairwise (fun x y => ∀ n m, TupI K H x n → TupI K H y m → TS.code 2000 n ≤ TS.code 2000 m)) : Paired (Trip H) ys (srt3 cs) := by
  obtain ⟨ds, q, g⟩ := paired_perm p hP
  have e : ds = srt3 cs := srt3_of hb q (paired_pw (S := fun a b => code3 a ≤ code3 b) (fun x y c d h1 h2 h3 => by
    have z := h3 _ _ h1.tupI h2.tupI
    rw [code3_eq, code3_eq] at z
    exact z) g s)
  rw [← e]
  exact g
theorem trips_ok {K : PySem.W.Frag} {H : Hp} {xs : List V} {cs : List T3} (hP : Paired (Trip H) xs cs) (hb : ∀ c ∈ cs, B3 c) : ∀ x ∈ xs, ∃ ns, TupI K H x ns ∧ ns.length = 3 ∧ TS.Bd 2000 ns := by
  intro x hx
  obtain ⟨i, hi⟩ := List.mem_iff_getElem?.mp hx
  obtain ⟨c, hc, hr⟩ := paired_get hP hi
  exact ⟨_, hr.tupI, rfl, (hb c (List.mem_of_getElem? hc)).bd⟩
/-- the seeds of the first k of the sorted rows, ascending -/
def served (cs : List T3) (k : Nat) : List Int := srtI (((srt3 cs).take k).map fun c => c.2.2)
end L2
end
section
set_option maxRecDepth 100000
set_option maxHeartbeats 4000000
namespace L2
open PySem PySem.Spec PyProof.Rows
theorem Trip.last {K : PySem.W.Frag} {H : Hp} {x : V} {c : T3} (h : Trip H x c) {Q : VK} (q : Q (.int c.2.2) H) : rIxT K x (.int (-1)) H Q := by
  obtain ⟨t, rfl, h⟩ := h
  exact ⟨t, _, -1, _, rfl, rfl, SqT.of h, rfl, q⟩
theorem Same.nn {H H' : Hp} {l : Addr} (e : Same H H') (h : H' l = none) : H l = none := by
  cases q : H l with
  | none => rfl
  | some o => rw [e l o q] at h; cases h
end L2
namespace K04
open PySem PySem.Spec PyProof.Rows L2
section
variable {P : Program} {w : World} {K : PySem.W.Frag} {mg : Str → Option Value} {base : Heap}
def spFirst (K : PySem.W.Frag) : Sp := fun vs H Q _ => ∃ a xs cs n, vs = [.ref a, .int n] ∧ H a = some (.lst xs) ∧ Paired (Trip H) xs cs ∧ (∀ c ∈ cs, B3 c) ∧ cs.length ≤ 1000 ∧
  ∀ l H', H l = none → Same H H' → H' l = some (.lst ((served cs n.toNat).map V.int)) → Q (.ref l) H'
theorem ok_first_served (T : Txt w K mg) : Ok P w K mg base CX0 1 "first_served" ["order", "cans"] (spFirst K) := by
  refine Ok.def0 (f_first_served T) (fun _ _ _ _ _ _ us hl => match us, hl with | [_, _], _ => rfl) sc_first_served (fun vs H Q E h => ?_) (fun f cdv A outer s H vs Q E hr h => ?_)
  · obtain ⟨a, xs, cs, n, rfl, _⟩ := h
    rfl
  · obtain ⟨a, xs, cs, n, rfl, h1, h2, h3, h4, k⟩ := h
    refine ⟨_, (pss_one (ps_ret (pe_callB (sortedIK (K := K) rfl) rfl (n_sorted T) (by decide +kernel) (pa_cons (pe_lc (own := [("row", 2)]) rfl sc_first_served.nd (pi_listK (K := K) rfl (pe_slice (sl_listK (K := K) rfl) (pe_callB (sorted3K (K := K) rfl) rfl (n_sorted T) (by decide +kernel) (pa_cons (pv 0) pa_nil)) po_none (po_some (pe_callB (call_max2 rfl) rfl (n_max T) (by decide +kernel) (pa_cons pe_int (pa_cons (pv 1) pa_nil)))))) (blkOk_by (N := ["order", "cans", "row"]) (sc := defScope s_first_served) (by decide +kernel)) (fun _ _ _ _ _ => (pg_name (i := 2) sc_first_served.nd rfl (by first | exact Or.inl rfl | exact Or.inr rfl))) (fun _ _ _ _ _ => pts_nil) (fun _ _ _ _ _ => (pe_ix (ix_tupK (K := K) rfl) (pv 2) (pe_un un_neg pe_int) (fun _ _ => rfl)))) pa_nil)))), ?_⟩
    have hxl : xs.length ≤ 1000 := by rw [Paired.length h2]; exact h4
    refine ⟨_, rfl, a, xs, rfl, SqL.of h1, trips_ok h2 h3, fun ys p pm pw hp => ?_⟩
    have hs := sorted3 h2 h3 pm pw
    obtain ⟨s1, g1⟩ := new2 (.lst ys) hp
    have hs := Paired.mapP hs fun _ _ z => Trip.same s1 z
    refine ⟨_, rfl, _, _, rfl, _, rfl, p, ys, rfl, SqL.of g1, fun q hq => ?_⟩
    have hcut : cutV ys none (some (if n > 0 then n else 0)) = ys.take n.toNat := cut_take ys (by split <;> omega)
    rw [hcut]
    obtain ⟨s2, g2⟩ := new2 (.lst (ys.take n.toNat)) hq
    have hyl : ys.length ≤ 1000 := by rw [pm.length_eq]; exact hxl
    have hs2 := Paired.mapP hs fun _ _ z => Trip.same s2 z
    refine ⟨q, rfl, ⟨_, SqL.of g2⟩, fun D hD => lc_acc (K := K) (a := q) (xs := ys.take n.toNat) hD (SqL.of g2) (by rw [List.length_take]; omega) (fun j acc _ => acc = (((srt3 cs).take j).map fun c => V.int c.2.2)) (fun _ _ => rfl) ?_ ?_⟩
    · rintro j x acc H' N N0 hx s' hacc hI hN hN0
      have hx' : ys[j]? = some x := by
        rw [List.getElem?_take] at hx
        split at hx
        · exact hx
        · cases hx
      obtain ⟨c, hc, hr⟩ := paired_get hs2 hx'
      refine ⟨rfl, ?_⟩
      exact ⟨_, rfl, 1, rfl, (hr.same s').last (hN _ _ (Same.refl _) fun _ _ _ => by rw [take_get hc, List.map_append, hI]; rfl)⟩
    · rintro acc H' s' hacc _ hI
      have hlen : (ys.take n.toNat).length = min n.toNat (srt3 cs).length := by rw [List.length_take, Paired.length hs]
      have hI' : acc = (((srt3 cs).take n.toNat).map fun c => c.2.2).map V.int := by
        rw [hI, hlen, List.map_map]
        congr 1
        exact List.take_eq_take_iff.mpr (by omega)
      refine ⟨D, _, rfl, hI' ▸ SqL.of hacc, fun ns l pm2 pw2 hl => ?_⟩
      have e := srtI_of pm2 pw2
      obtain ⟨s3, g3⟩ := new2 (.lst (ns.map V.int)) hl
      have s4 := ((s1.trans s2).trans s').trans s3
      refine k l _ ?_ s4 (by rw [g3, e]; rfl)
      exact ((s1.trans s2).trans s').nn hl
end
end K04
end
section
set_option maxRecDepth 100000
set_option maxHeartbeats 4000000
namespace K04
open PySem PySem.Spec PyProof.Rows L2
/-- the rows of the open seeds that are not wet, numbered from k on -/
def orderOf (wet : List (Key × V)) (d : Int) : Int → List (Int × Int) → List T3
  | _, [] => []
  | k, c :: r => if (c.1 ≤ d ∧ d ≤ c.2) ∧ (valV wet (.inl k)).isSome = false then (c.2, c.1, k) :: orderOf wet d (k + 1) r else orderOf wet d (k + 1) r
theorem order_len (wet : List (Key × V)) (d : Int) : ∀ (ws : List (Int × Int)) (k : Int), (orderOf wet d k ws).length ≤ ws.length
  | [], _ => Nat.le_refl _
  | c :: r, k => by
    unfold orderOf
    split
    · exact Nat.succ_le_succ (order_len wet d r _)
    · exact Nat.le_succ_of_le (order_len wet d r _)
theorem order_ok (wet : List (Key × V)) (d : Int) : ∀ (ws : List (Int × Int)) (k : Int), 1 ≤ k → k + ws.length ≤ 2000 → (∀ c ∈ ws, VW 24 c) → ∀ c ∈ orderOf wet d k ws, B3 c
  | [], _, _, _, _ => fun c hc => by cases hc
  | a :: r, k, h1, h2, h => by
    have hr := order_ok wet d r (k + 1) (by omega) (by rw [List.length_cons] at h2; omega) fun c hc => h c (List.mem_cons_of_mem _ hc)
    have ha := h a List.mem_cons_self
    rw [List.length_cons] at h2
    unfold orderOf
    split
    · intro c hc
      rcases List.mem_cons.mp hc with rfl | hc
      · unfold VW at ha
        unfold B3
        simp only
        omega
      · exact hr c hc
    · exact hr
theorem order_opens (wet : List (Key × V)) (d : Int) (g : Int → Option T3) : ∀ (ws : List (Int × Int)) (k : Int), (∀ (i : Nat) c, ws[i]? = some c → g (k + i) = if (valV wet (.inl (k + i))).isSome = true then none else some (c.2, c.1, k + i)) → (opens d k ws).filterMap g = orderOf wet d k ws
  | [], _, _ => rfl
  | c :: r, k, h => by
    have h0 := h 0 c rfl
    simp only [Int.natCast_zero, Int.add_zero] at h0
    have hr := order_opens wet d g r (k + 1) fun i e he => by
      have z := h (i + 1) e (by simpa using he)
      have e1 : k + ((i + 1 : Nat) : Int) = k + 1 + (i : Nat) := by omega
      rw [e1] at z
      exact z
    unfold opens orderOf
    by_cases q : c.1 ≤ d ∧ d ≤ c.2
    · rw [if_pos q, List.filterMap_cons, h0, hr]
      cases e : (valV wet (.inl k)).isSome with
      | true => rw [if_pos rfl, if_neg (by simp)]
      | false => rw [if_neg (by simp), if_pos ⟨q, rfl⟩]
    · rw [if_neg q, if_neg (fun z => q z.1), hr]
def rowOf (wet : List (Key × V)) (ws : List (Int × Int)) (k : Int) : Option T3 := if (valV wet (.inl k)).isSome = true then none else (ws[(k - 1).toNat]?).map fun c => (c.2, c.1, k)
theorem order_all (wet : List (Key × V)) (d : Int) (ws : List (Int × Int)) : (opens d 1 ws).filterMap (rowOf wet ws) = orderOf wet d 1 ws :=
  order_opens wet d _ ws 1 fun i c hc => by
    unfold rowOf
    have e : ((1 + (i : Int)) - 1).toNat = i := by omega
    rw [e, hc]
    rfl
theorem opens_mem (d : Int) : ∀ (ws : List (Int × Int)) (k : Int), ∀ x ∈ opens d k ws, k ≤ x ∧ x < k + ws.length
  | [], _ => fun x hx => by cases hx
  | c :: r, k => fun x hx => by
    unfold opens at hx
    rw [List.length_cons]
    have ih := opens_mem d r (k + 1)
    split at hx
    · rcases List.mem_cons.mp hx with rfl | hx
      · omega
      · have := ih x hx
        omega
    · have := ih x hx
      omega
theorem gf_no {d : Int} {l : Addr} {x : Str} (h1 : (x == ("days_number" : Str)) = false) (h2 : (x == ("seed_list" : Str)) = false) : (gf d l).lookup x = none := by
  simp [List.lookup, h1, h2]
theorem Trip.mut {H : Hp} {l : Addr} {xs : List V} {o : HO} (hl : H l = some (.lst xs)) {x : V} {c : T3} (h : Trip H x c) : Trip (upd H l o) x c := by
  obtain ⟨t, rfl, h⟩ := h
  refine ⟨t, rfl, ?_⟩
  rw [upd_ne (fun z => by rw [z, hl] at h; cases h)]
  exact h
section
variable {P : Program} {w : World} {K : PySem.W.Frag} {mg : Str → Option Value} {base : Heap}
def spGServe (K : PySem.W.Frag) : Sp := fun vs H Q E => ∃ p T ws d wa wet n, vs = [.ref p, .ref wa, .int d, .int n] ∧ GardenAt K H p T ws ∧ ws.length ≤ 1000 ∧ (∀ c ∈ ws, VW 24 c) ∧ H wa = some (.dK wet) ∧ (¬ (1 ≤ d ∧ d ≤ T) → ∀ H', Same H H' → Rz E H' (cBD K) "day" (.int d)) ∧
  (1 ≤ d → d ≤ T → ∀ l H', H l = none → Same H H' → H' l = some (.lst ((served (orderOf wet d 1 ws) n.toNat).map V.int)) → Q (.ref l) H')
theorem okm_Garden_serve (T : Txt w K mg) : OkM P w K mg base (L2.CX P w) 7 (cG K) "serve" ["self", "wet", "day", "cans"] (spGServe K) := by
  refine OkM.defX (fm_Garden_serve T) (me_Garden_serve T) (fun _ _ _ _ _ _ us hl => match us, hl with | [_, _, _, _], _ => rfl) sc_Garden_serve (fun vs H Q E h => ?_) (fun cdv A outer s H vs Q E hr h tk => ?_)
  · obtain ⟨p, TT, ws, d, wa, wet, n, rfl, _⟩ := h
    rfl
  · obtain ⟨p, TT, ws, d, wa, wet, n, rfl, ⟨dx, l, xs, h1, h2, h3⟩, hl, hV, hw, k1, k2⟩ := h
    refine ⟨_, (pss_cons (ps_set (i := 4) sc_Garden_serve.nd rfl (by first | exact Or.inl rfl | exact Or.inr rfl) (pe_lst pa_nil))
      (pss_cons (ps_for (passes_of rfl) rfl (pi_listK (K := K) rfl (pe_okM (okm_Garden_open_on T) (cl_Garden T) (pv 0) (hr.mono (by first | decide | omega)) (passes_call tk (fun _ _ _ _ h => h)) (pa_cons (pv 2) pa_nil))) (pg_name (i := 5) sc_Garden_serve.nd rfl (by first | exact Or.inl rfl | exact Or.inr rfl))
        (pss_one (ps_if (pt_cmp (pc_dnotin (du hr.units) (pv 5) (pv 1))) (pss_cons (ps_asg (pe_ix (ix_seqK (K := K) rfl) (pe_fld (pv 0) rfl) (pe_op op_sub (pv 5) pe_int) (fun _ _ => rfl)) (pg_tupK (K := K) (n := 2) rfl rfl (pgs_cons (pg_name (i := 6) sc_Garden_serve.nd rfl (by first | exact Or.inl rfl | exact Or.inr rfl)) (pgs_cons (pg_name (i := 7) sc_Garden_serve.nd rfl (by first | exact Or.inl rfl | exact Or.inr rfl)) pgs_nil))))
      (pss_one (ps_expr (pe_bm PySem.F.plainAttrs_list PySem.F.slot_list_append PySem.F.type_list_append mt_append (pv 4) (pa_cons (pe_tup (pa_cons (pv 7) (pa_cons (pv 6) (pa_cons (pv 5) pa_nil)))) pa_nil))))) pss_nil)))
      (pss_one (ps_ret (pe_ok (ok_first_served T) (hr.mono (by first | decide | omega)) rfl pass0 (pa_cons (pv 4) (pa_cons (pv 3) pa_nil))))))), ?_⟩
    refine ⟨(by show 0 ≤ sizeLine; decide), fun m hm => ?_⟩
    obtain ⟨s1, g1⟩ := new2 (.lst []) hm
    refine ⟨_, rfl, p, dx, _, rfl, s1 _ _ h1, gf_no (by decide +kernel) (by decide +kernel), _, rfl, p, TT, ws, d, rfl, GardenAt.same s1 ⟨dx, l, xs, h1, h2, h3⟩, hl, fun z => k1 z _ s1, fun q1 q2 lo H2 hlo e2 hLo => ?_⟩
    have hml : m ≠ lo := fun z => by rw [← z, g1] at hlo; cases hlo
    refine ⟨lo, rfl, ⟨_, SqL.of hLo⟩, for_list (K := K) (a := lo) (xs := (opens d 1 ws).map V.int) (fun i σ H' => ∃ v5 v6 v7 ys cs, σ = [some (.ref p), some (.ref wa), some (.int d), some (.int n), some (.ref m), v5, v6, v7] ∧ Same H H' ∧ H' lo = some (.lst ((opens d 1 ws).map V.int)) ∧ H' m = some (.lst ys) ∧ Paired (Trip H') ys cs ∧ cs = ((opens d 1 ws).take i).filterMap (rowOf wet ws))
      ⟨_, _, _, [], [], rfl, s1.trans e2, hLo, e2 _ _ g1, .nil, rfl⟩ (fun i σ H' _ ⟨_, _, _, _, _, _, _, z, _⟩ => SqL.of z) ?_ ?_⟩
    · rintro i x σ H' hx ⟨v5, v6, v7, ys, cs, rfl, e, hL, hO, hP, hcs⟩
      rw [List.getElem?_map] at hx
      obtain ⟨sd, hsd, rfl⟩ := Option.map_eq_some_iff.mp hx
      obtain ⟨b1, b2⟩ := opens_mem d ws 1 sd (List.mem_of_getElem? hsd)
      obtain ⟨c, hc⟩ : ∃ c, ws[(sd - 1).toNat]? = some c := ⟨ws[(sd - 1).toNat]'(by omega), List.getElem?_eq_getElem _⟩
      obtain ⟨v, hv⟩ : ∃ v, xs[(sd - 1).toNat]? = some v := ⟨xs[(sd - 1).toNat]'(by rw [Paired.length h3]; omega), List.getElem?_eq_getElem _⟩
      obtain ⟨c', hc', hr⟩ := paired_get h3 hv
      rw [hc] at hc'
      cases hc'
      have hyl : ys.length ≤ 1000 := by
        rw [Paired.length hP, hcs]
        refine Nat.le_trans (List.length_filterMap_le _ _) ?_
        rw [List.length_take]
        have := opens_len d ws 1
        omega
      refine ⟨_, rfl, _, rfl, wa, _, rfl, DGet.k (k := .inl sd) (e _ _ hw), _, rfl, ?_⟩
      have hrow : rowOf wet ws sd = if (valV wet (.inl sd)).isSome = true then none else some (c.2, c.1, sd) := by
        unfold rowOf
        rw [hc]
        rfl
      have stp : ((opens d 1 ws).take (i + 1)).filterMap (rowOf wet ws) = cs ++ (if (valV wet (.inl sd)).isSome = true then [] else [(c.2, c.1, sd)]) := by
        rw [take_get hsd, List.filterMap_append, ← hcs, List.filterMap_cons, hrow]
        split <;> rename_i z <;> split at z <;> simp_all
      cases hw2 : (valV wet (.inl sd)).isSome with
      | true =>
        rw [hw2] at stp
        exact ⟨_, _, _, ys, cs, rfl, e, hL, hO, hP, by rw [stp]; simp⟩
      | false =>
        rw [hw2] at stp
        refine ⟨_, rfl, p, _, dx, _, _, rfl, e _ _ h1, cl_Garden T, na_Garden_seed_list T, gf_seeds TT l, _, rfl, _, _, rfl, rfl, .inl ⟨l, _, _, _, rfl, rfl, SqL.of (e _ _ h2), atI_int (by omega) hv, (hr.same e).un rfl ?_⟩⟩
        refine ⟨_, rfl, .inl ⟨rfl, _, SqL.of hO⟩, _, rfl, _, rfl, _, rfl, (by show 3 ≤ sizeLine; decide), fun t ht => ?_⟩
        obtain ⟨s5, g5⟩ := new2 (.tup [.int c.2, .int c.1, .int sd]) ht
        have hO5 := s5 _ _ hO
        refine ⟨m, ys, _, rfl, rfl, hO5, line_lt (by omega), ?_⟩
        refine ⟨_, _, _, ys ++ [V.ref t], cs ++ [(c.2, c.1, sd)], rfl, same_mut (e.trans s5) hm, ?_, upd_same, ?_, stp.symm⟩
        · rw [upd_ne hml.symm]
          exact s5 _ _ hL
        · exact paired_snoc (Paired.mapP hP fun _ _ z => Trip.mut hO5 (Trip.same s5 z)) (Trip.mut hO5 ⟨t, rfl, g5⟩)
    · rintro σ H' ⟨v5, v6, v7, ys, cs, rfl, e, hL, hO, hP, hcs⟩
      rw [List.length_map, List.take_length, order_all] at hcs
      subst hcs
      refine ⟨_, rfl, _, rfl, m, ys, _, n, rfl, hO, hP, order_ok wet d ws 1 (by omega) (by omega) hV, Nat.le_trans (order_len wet d ws 1) hl, fun l' H3 hl' e3 hr3 => ?_⟩
      exact k2 q1 q2 l' H3 (e.nn hl') (e.trans e3) hr3
end
end K04
end
section
set_option maxRecDepth 100000
set_option maxHeartbeats 4000000
namespace K04
open PySem PySem.Spec PyProof.Rows L2
section
variable {P : Program} {w : World} {K : PySem.W.Frag} {mg : Str → Option Value} {base : Heap}
theorem mt_gen {k : Nat} {sp0 : Sp} {R : Hp → V → V → Prop} (T : Txt w K mg) (ok__law_matches : Txt w K mg → Ok P w K mg base CX0 k "_law_matches" ["answer", "due"] sp0) (hR : ∀ H v u Q, R H v u → (∀ H', Same H H' → Q (.bl true) H') → sp0 [v, u] H Q E0)
    (hS : ∀ H H' v u, Same H H' → R H v u → R H' v u) : Ok P w K mg base CX0 (k + 1) "_law_matches" ["answer", "due"] (spMt fun H v u => Leaf v u ∨ Comp R H v u) := by
  refine Ok.def0 (f__law_matches T) (fun _ _ _ _ _ _ us hl => match us, hl with | [_, _], _ => rfl) sc__law_matches (fun vs H Q E h => ?_) (fun f cdv A outer s H vs Q E hr h => ?_)
  · obtain ⟨v, u, rfl, _⟩ := h
    rfl
  · obtain ⟨v, u, rfl, h, q⟩ := h
    refine ⟨_, (pss_cons (ps_if (PW.pt (pw_or (pt_cmpR op_isN (pv 1) pe_non (nomark _)) (pw_or1 (pt_cmpR op_isN (pv 0) pe_non (nomark _))))) (pss_one (ps_ret (pe_and (pe_cmpR op_isN (pv 1) pe_non (nomark _)) (pe_one (pe_cmpR op_isN (pv 0) pe_non (nomark _)))))) pss_nil)
      (pss_cons (ps_if (PW.pt (pw_or (pt_val (pe_callB (isiK (K := K) rfl) rfl (n_isinstance T) (by decide +kernel) (pa_cons (pv 1) (pa_cons (pe_bltn (v := .ty "bool") (u := .type "bool") rfl (n_bool T) (by decide +kernel) rfl) pa_nil)))) (pw_or1 (pt_val (pe_callB (isiK (K := K) rfl) rfl (n_isinstance T) (by decide +kernel) (pa_cons (pv 0) (pa_cons (pe_bltn (v := .ty "bool") (u := .type "bool") rfl (n_bool T) (by decide +kernel) rfl) pa_nil))))))) (pss_one (ps_ret (pe_and (pe_callB (isiK (K := K) rfl) rfl (n_isinstance T) (by decide +kernel) (pa_cons (pv 1) (pa_cons (pe_bltn (v := .ty "bool") (u := .type "bool") rfl (n_bool T) (by decide +kernel) rfl) pa_nil))) (pe_and (pe_callB (isiK (K := K) rfl) rfl (n_isinstance T) (by decide +kernel) (pa_cons (pv 0) (pa_cons (pe_bltn (v := .ty "bool") (u := .type "bool") rfl (n_bool T) (by decide +kernel) rfl) pa_nil))) (pe_one (pe_cmpR op_eq (pv 0) (pv 1) (nomark _))))))) pss_nil)
      (pss_cons (ps_if (pt_val (pe_callB (isiK (K := K) rfl) rfl (n_isinstance T) (by decide +kernel) (pa_cons (pv 1) (pa_cons (pe_bltn (v := .ty "int") (u := .type "int") rfl (n_int T) (by decide +kernel) rfl) pa_nil)))) (pss_one (ps_ret (pe_and (pe_callB (isiK (K := K) rfl) rfl (n_isinstance T) (by decide +kernel) (pa_cons (pv 0) (pa_cons (pe_bltn (v := .ty "int") (u := .type "int") rfl (n_int T) (by decide +kernel) rfl) pa_nil))) (pe_one (pe_cmpR op_eq (pv 0) (pv 1) (nomark _)))))) pss_nil)
      (pss_cons (ps_if (pt_val (pe_callB (isiK (K := K) rfl) rfl (n_isinstance T) (by decide +kernel) (pa_cons (pv 1) (pa_cons (pe_bltn (v := .ty "str") (u := .type "str") rfl (n_str T) (by decide +kernel) rfl) pa_nil)))) (pss_one (ps_ret (pe_and (pe_callB (isiK (K := K) rfl) rfl (n_isinstance T) (by decide +kernel) (pa_cons (pv 0) (pa_cons (pe_bltn (v := .ty "str") (u := .type "str") rfl (n_str T) (by decide +kernel) rfl) pa_nil))) (pe_one (pe_cmpR op_eq (pv 0) (pv 1) (nomark _)))))) pss_nil)
      (pss_cons (ps_if (pt_val (pe_callB (isiK (K := K) rfl) rfl (n_isinstance T) (by decide +kernel) (pa_cons (pv 1) (pa_cons (pe_bltn (v := .ty "dict") (u := .type "dict") rfl (n_dict T) (by decide +kernel) rfl) pa_nil)))) (pss_cons (ps_if (PW.pt (pw_or (pt_not (pt_val (pe_callB (isiK (K := K) rfl) rfl (n_isinstance T) (by decide +kernel) (pa_cons (pv 0) (pa_cons (pe_bltn (v := .ty "dict") (u := .type "dict") rfl (n_dict T) (by decide +kernel) rfl) pa_nil))))) (pw_or1 (pt_cmpR op_ne (pe_callB (len_seqK (K := K) rfl) rfl (n_len T) (by decide +kernel) (pa_cons (pv 0) pa_nil)) (pe_callB (len_seqK (K := K) rfl) rfl (n_len T) (by decide +kernel) (pa_cons (pv 1) pa_nil)) (nomark _))))) (pss_one (ps_ret pe_bl)) pss_nil)
      (pss_cons (ps_for PassesOwn.never rfl (pi_listK (K := K) rfl (pe_callTy (list_ofK (K := K) rfl) rfl (n_list T) (by decide +kernel) (pa_cons (pv 1) pa_nil))) (pg_name (i := 2) sc__law_matches.nd rfl (by first | exact Or.inl rfl | exact Or.inr rfl))
        (pss_one (ps_if (PW.pt (pw_or (pt_cmpR op_notIn_seq (pv 2) (pv 0) (by with_unfolding_all rfl)) (pw_or1 (pt_not (pt_val (pe_ok (ok__law_matches T) (hr.mono (by first | decide | omega)) rfl pass0 (pa_cons (pe_ix (ix_seqK (K := K) rfl) (pv 0) (pv 2) (fun _ _ => rfl)) (pa_cons (pe_ix (ix_seqK (K := K) rfl) (pv 1) (pv 2) (fun _ _ => rfl)) pa_nil)))))))) (pss_one (ps_ret pe_bl)) pss_nil)))
      (pss_one (ps_ret pe_bl)))) pss_nil)
      (pss_cons (ps_if (PW.pt (pw_and (pt_val (pe_callB (isiK (K := K) rfl) rfl (n_isinstance T) (by decide +kernel) (pa_cons (pv 1) (pa_cons (pe_bltn (v := .ty "tuple") (u := .type "tuple") rfl (n_tuple T) (by decide +kernel) rfl) pa_nil)))) (pw_and1 (pt_not (pt_val (pe_callB (isiK (K := K) rfl) rfl (n_isinstance T) (by decide +kernel) (pa_cons (pv 0) (pa_cons (pe_bltn (v := .ty "tuple") (u := .type "tuple") rfl (n_tuple T) (by decide +kernel) rfl) pa_nil)))))))) (pss_one (ps_ret pe_bl)) pss_nil)
      (pss_cons (ps_if (PW.pt (pw_and (pt_val (pe_callB (isiK (K := K) rfl) rfl (n_isinstance T) (by decide +kernel) (pa_cons (pv 1) (pa_cons (pe_bltn (v := .ty "list") (u := .type "list") rfl (n_list T) (by decide +kernel) rfl) pa_nil)))) (pw_and1 (pt_not (pt_val (pe_callB (isiK (K := K) rfl) rfl (n_isinstance T) (by decide +kernel) (pa_cons (pv 0) (pa_cons (pe_bltn (v := .ty "list") (u := .type "list") rfl (n_list T) (by decide +kernel) rfl) pa_nil)))))))) (pss_one (ps_ret pe_bl)) pss_nil)
      (pss_cons (ps_if (pt_cmpR op_ne (pe_callB (len_seqK (K := K) rfl) rfl (n_len T) (by decide +kernel) (pa_cons (pv 0) pa_nil)) (pe_callB (len_seqK (K := K) rfl) rfl (n_len T) (by decide +kernel) (pa_cons (pv 1) pa_nil)) (nomark _)) (pss_one (ps_ret pe_bl)) pss_nil)
      (pss_cons (ps_for PassesOwn.never rfl (pi_range1 rfl (n_range T) (pa_cons (pe_callB (len_seqK (K := K) rfl) rfl (n_len T) (by decide +kernel) (pa_cons (pv 1) pa_nil)) pa_nil)) (pg_name (i := 3) sc__law_matches.nd rfl (by first | exact Or.inl rfl | exact Or.inr rfl))
        (pss_one (ps_if (pt_not (pt_val (pe_ok (ok__law_matches T) (hr.mono (by first | decide | omega)) rfl pass0 (pa_cons (pe_ix (ix_seqK (K := K) rfl) (pv 0) (pv 3) (fun _ _ => rfl)) (pa_cons (pe_ix (ix_seqK (K := K) rfl) (pv 1) (pv 3) (fun _ _ => rfl)) pa_nil))))) (pss_one (ps_ret pe_bl)) pss_nil)))
      (pss_one (ps_ret pe_bl))))))))))), ?_⟩
    rcases h with h | h
    · rcases h with ⟨n, rfl, rfl⟩ | ⟨z, rfl, rfl⟩
      · refine ⟨_, rfl, rfl, _, rfl, iteF ⟨_, rfl, rfl, _, rfl, iteF ?_⟩⟩
        refine ⟨_, rfl, ⟨_, _, _, _, _, rfl, .ty _, tx_int _, k_ib, _, rfl, iteF ⟨_, rfl, ⟨_, _, _, _, _, rfl, .ty _, tx_int _, k_ib, _, rfl, iteF ?_⟩⟩⟩⟩
        refine ⟨_, rfl, ⟨_, _, _, _, _, rfl, .ty _, tx_int _, k_ii, _, rfl, iteT ⟨_, rfl, ⟨_, _, _, _, _, rfl, .ty _, tx_int _, k_ii, _, rfl, iteT ⟨_, rfl, _, rfl, rfl, ?_⟩⟩⟩⟩⟩
        rw [decide_eq_true rfl]
        exact q _ (Same.refl _)
      · refine ⟨_, rfl, rfl, _, rfl, iteF ⟨_, rfl, rfl, _, rfl, iteF ?_⟩⟩
        refine ⟨_, rfl, ⟨_, _, _, _, _, rfl, .ty _, tx_str _, k_sb, _, rfl, iteF ⟨_, rfl, ⟨_, _, _, _, _, rfl, .ty _, tx_str _, k_sb, _, rfl, iteF ?_⟩⟩⟩⟩
        refine ⟨_, rfl, ⟨_, _, _, _, _, rfl, .ty _, tx_str _, k_si, _, rfl, iteF ?_⟩⟩
        refine ⟨_, rfl, ⟨_, _, _, _, _, rfl, .ty _, tx_str _, k_ss, _, rfl, iteT ⟨_, rfl, ⟨_, _, _, _, _, rfl, .ty _, tx_str _, k_ss, _, rfl, iteT ⟨_, rfl, _, rfl, rfl, ?_⟩⟩⟩⟩⟩
        rw [decide_eq_true rfl]
        exact q _ (Same.refl _)
    · obtain ⟨a, b, xs, ys, rfl, rfl, h, hl, hz, hr⟩ := h
      refine ⟨_, rfl, rfl, _, rfl, iteF ⟨_, rfl, rfl, _, rfl, iteF ?_⟩⟩
      rcases h with ⟨ha, hb⟩ | ⟨ha, hb⟩
      · refine ⟨_, rfl, ⟨_, _, _, _, _, rfl, .ty _, tx_lst hb, k_lb, _, rfl, iteF ⟨_, rfl, ⟨_, _, _, _, _, rfl, .ty _, tx_lst ha, k_lb, _, rfl, iteF ?_⟩⟩⟩⟩
        refine ⟨_, rfl, ⟨_, _, _, _, _, rfl, .ty _, tx_lst hb, k_li, _, rfl, iteF ?_⟩⟩
        refine ⟨_, rfl, ⟨_, _, _, _, _, rfl, .ty _, tx_lst hb, k_ls, _, rfl, iteF ?_⟩⟩
        refine ⟨_, rfl, ⟨_, _, _, _, _, rfl, .ty _, tx_lst hb, k_ld, _, rfl, iteF ?_⟩⟩
        refine ⟨_, rfl, ⟨_, _, _, _, _, rfl, .ty _, tx_lst hb, k_lt, _, rfl, iteF ?_⟩⟩
        refine ⟨_, rfl, ⟨_, _, _, _, _, rfl, .ty _, tx_lst hb, k_ll, _, rfl, iteT ⟨_, rfl, ⟨_, _, _, _, _, rfl, .ty _, tx_lst ha, k_ll, _, rfl, iteF ?_⟩⟩⟩⟩
        refine ⟨_, rfl, _, _, rfl, .inl (SqL.of ha), _, rfl, _, _, rfl, .inl (SqL.of hb), rfl, _, rfl, ?_⟩
        rw [hl, decide_eq_true rfl]
        refine iteF ⟨_, rfl, _, _, rfl, .inl (SqL.of hb), _, rfl, by omega, by omega, for_upto (lo := 0) (L := ys.length) (by omega) (fun i σ H' => ∃ v3, σ = [some (.ref a), some (.ref b), none, v3] ∧ Same H H') ⟨none, rfl, Same.refl H⟩ ?_ ?_⟩
        · rintro i σ H' hi ⟨v3, rfl, e⟩
          obtain ⟨x, hx⟩ : ∃ x, xs[i]? = some x := ⟨xs[i]'(by omega), List.getElem?_eq_getElem _⟩
          obtain ⟨y, hy⟩ : ∃ y, ys[i]? = some y := ⟨ys[i], List.getElem?_eq_getElem _⟩
          refine ⟨_, rfl, _, rfl, .inl ⟨a, _, _, _, rfl, rfl, e.seq (SqL.of ha), at_of (by omega) hx, _, rfl, _, rfl, .inl ⟨b, _, _, _, rfl, rfl, e.seq (SqL.of hb), at_of (by omega) hy, ?_⟩⟩⟩
          exact hR _ _ _ _ (hS _ _ _ _ e (hr i x y hx hy)) fun H2 s2 => ⟨_, rfl, _, rfl, e.trans s2⟩
        · rintro σ H' ⟨v3, rfl, e⟩
          exact q _ e
      · refine ⟨_, rfl, ⟨_, _, _, _, _, rfl, .ty _, tx_tup hb, k_tb, _, rfl, iteF ⟨_, rfl, ⟨_, _, _, _, _, rfl, .ty _, tx_tup ha, k_tb, _, rfl, iteF ?_⟩⟩⟩⟩
        refine ⟨_, rfl, ⟨_, _, _, _, _, rfl, .ty _, tx_tup hb, k_ti, _, rfl, iteF ?_⟩⟩
        refine ⟨_, rfl, ⟨_, _, _, _, _, rfl, .ty _, tx_tup hb, k_ts, _, rfl, iteF ?_⟩⟩
        refine ⟨_, rfl, ⟨_, _, _, _, _, rfl, .ty _, tx_tup hb, k_td, _, rfl, iteF ?_⟩⟩
        refine ⟨_, rfl, ⟨_, _, _, _, _, rfl, .ty _, tx_tup hb, k_tt, _, rfl, iteT ⟨_, rfl, ⟨_, _, _, _, _, rfl, .ty _, tx_tup ha, k_tt, _, rfl, iteF ?_⟩⟩⟩⟩
        refine ⟨_, rfl, ⟨_, _, _, _, _, rfl, .ty _, tx_tup hb, k_tl, _, rfl, iteF ?_⟩⟩
        refine ⟨_, rfl, _, _, rfl, .inr (SqT.of ha), _, rfl, _, _, rfl, .inr (SqT.of hb), rfl, _, rfl, ?_⟩
        rw [hl, decide_eq_true rfl]
        refine iteF ⟨_, rfl, _, _, rfl, .inr (SqT.of hb), _, rfl, by omega, by omega, for_upto (lo := 0) (L := ys.length) (by omega) (fun i σ H' => ∃ v3, σ = [some (.ref a), some (.ref b), none, v3] ∧ Same H H') ⟨none, rfl, Same.refl H⟩ ?_ ?_⟩
        · rintro i σ H' hi ⟨v3, rfl, e⟩
          obtain ⟨x, hx⟩ : ∃ x, xs[i]? = some x := ⟨xs[i]'(by omega), List.getElem?_eq_getElem _⟩
          obtain ⟨y, hy⟩ : ∃ y, ys[i]? = some y := ⟨ys[i], List.getElem?_eq_getElem _⟩
          refine ⟨_, rfl, _, rfl, .inr (.inl ⟨a, _, _, _, rfl, rfl, e.tup (SqT.of ha), at_of (by omega) hx, _, rfl, _, rfl, .inr (.inl ⟨b, _, _, _, rfl, rfl, e.tup (SqT.of hb), at_of (by omega) hy, ?_⟩)⟩)⟩
          exact hR _ _ _ _ (hS _ _ _ _ e (hr i x y hx hy)) fun H2 s2 => ⟨_, rfl, _, rfl, e.trans s2⟩
        · rintro σ H' ⟨v3, rfl, e⟩
          exact q _ e
theorem ok_mt0 (T : Txt w K mg) : Ok P w K mg base CX0 1 "_law_matches" ["answer", "due"] (spMt (Mt 0)) :=
  (mt_gen (k := 0) (sp0 := fun _ _ _ _ => False) (R := fun _ _ _ => False) T (fun T => Ok.never (f__law_matches T) (fun _ _ _ _ _ _ us hl => match us, hl with | [_, _], _ => rfl)) (fun _ _ _ _ h _ => h.elim) (fun _ _ _ _ _ h => h)).imp fun vs H Q E ⟨v, u, e, h, q⟩ => ⟨v, u, e, .inl h, q⟩
theorem ok_mt1 (T : Txt w K mg) : Ok P w K mg base CX0 2 "_law_matches" ["answer", "due"] (spMt (Mt 1)) :=
  mt_gen (k := 1) T (fun T => ok_mt0 T) (fun _ v u _ h q => ⟨v, u, rfl, h, q⟩) (fun _ _ _ _ e h => h.same (k := 0) e)
theorem ok_mt2 (T : Txt w K mg) : Ok P w K mg base CX0 3 "_law_matches" ["answer", "due"] (spMt (Mt 2)) :=
  mt_gen (k := 2) T (fun T => ok_mt1 T) (fun _ v u _ h q => ⟨v, u, rfl, h, q⟩) (fun _ _ _ _ e h => Mt.same (k := 1) e h)
end
end K04
end
section
set_option maxRecDepth 100000
set_option maxHeartbeats 4000000
namespace K04
open PySem PySem.Spec PyProof.Rows L2
section
variable {P : Program} {w : World} {K : PySem.W.Frag} {mg : Str → Option Value} {base : Heap}
theorem k_db : PySem.W.kitOne K (.type "dict") (.type "bool") = some false := kit_ty (by decide +kernel)
theorem k_di : PySem.W.kitOne K (.type "dict") (.type "int") = some false := kit_ty (by decide +kernel)
theorem k_ds : PySem.W.kitOne K (.type "dict") (.type "str") = some false := kit_ty (by decide +kernel)
theorem k_dd : PySem.W.kitOne K (.type "dict") (.type "dict") = some true := kit_ty (by decide +kernel)
/-- two dicts with the same int keys and int values -/
def spMtD : Sp := fun vs H Q _ => ∃ a b ks, vs = [.ref a, .ref b] ∧ H a = some (.dK ks) ∧ H b = some (.dK ks) ∧ ks.length ≤ 1000 ∧ (∀ kv ∈ ks, ∃ n, valV ks kv.1 = some (V.int n)) ∧ ∀ H', Same H H' → Q (.bl true) H'
theorem ok_mtD (T : Txt w K mg) : Ok P w K mg base CX0 4 "_law_matches" ["answer", "due"] spMtD := by
  refine Ok.def0 (f__law_matches T) (fun _ _ _ _ _ _ us hl => match us, hl with | [_, _], _ => rfl) sc__law_matches (fun vs H Q E h => ?_) (fun f cdv A outer s H vs Q E hr h => ?_)
  · obtain ⟨a, b, ks, rfl, _⟩ := h
    rfl
  · obtain ⟨a, b, ks, rfl, ha, hb, hl, hv, q⟩ := h
    have tx_dk : ∀ {H : Hp} {a : Addr} {ks : List (Key × V)}, H a = some (.dK ks) → TyX K H (.ref a) (.type "dict") := fun h => .base (.dK h)
    have ok__law_matches := fun (T : Txt w K mg) => ok_mt2 (P := P) (base := base) T
    refine ⟨_, (pss_cons (ps_if (PW.pt (pw_or (pt_cmpR op_isN (pv 1) pe_non (nomark _)) (pw_or1 (pt_cmpR op_isN (pv 0) pe_non (nomark _))))) (pss_one (ps_ret (pe_and (pe_cmpR op_isN (pv 1) pe_non (nomark _)) (pe_one (pe_cmpR op_isN (pv 0) pe_non (nomark _)))))) pss_nil)
      (pss_cons (ps_if (PW.pt (pw_or (pt_val (pe_callB (isiK (K := K) rfl) rfl (n_isinstance T) (by decide +kernel) (pa_cons (pv 1) (pa_cons (pe_bltn (v := .ty "bool") (u := .type "bool") rfl (n_bool T) (by decide +kernel) rfl) pa_nil)))) (pw_or1 (pt_val (pe_callB (isiK (K := K) rfl) rfl (n_isinstance T) (by decide +kernel) (pa_cons (pv 0) (pa_cons (pe_bltn (v := .ty "bool") (u := .type "bool") rfl (n_bool T) (by decide +kernel) rfl) pa_nil))))))) (pss_one (ps_ret (pe_and (pe_callB (isiK (K := K) rfl) rfl (n_isinstance T) (by decide +kernel) (pa_cons (pv 1) (pa_cons (pe_bltn (v := .ty "bool") (u := .type "bool") rfl (n_bool T) (by decide +kernel) rfl) pa_nil))) (pe_and (pe_callB (isiK (K := K) rfl) rfl (n_isinstance T) (by decide +kernel) (pa_cons (pv 0) (pa_cons (pe_bltn (v := .ty "bool") (u := .type "bool") rfl (n_bool T) (by decide +kernel) rfl) pa_nil))) (pe_one (pe_cmpR op_eq (pv 0) (pv 1) (nomark _))))))) pss_nil)
      (pss_cons (ps_if (pt_val (pe_callB (isiK (K := K) rfl) rfl (n_isinstance T) (by decide +kernel) (pa_cons (pv 1) (pa_cons (pe_bltn (v := .ty "int") (u := .type "int") rfl (n_int T) (by decide +kernel) rfl) pa_nil)))) (pss_one (ps_ret (pe_and (pe_callB (isiK (K := K) rfl) rfl (n_isinstance T) (by decide +kernel) (pa_cons (pv 0) (pa_cons (pe_bltn (v := .ty "int") (u := .type "int") rfl (n_int T) (by decide +kernel) rfl) pa_nil))) (pe_one (pe_cmpR op_eq (pv 0) (pv 1) (nomark _)))))) pss_nil)
      (pss_cons (ps_if (pt_val (pe_callB (isiK (K := K) rfl) rfl (n_isinstance T) (by decide +kernel) (pa_cons (pv 1) (pa_cons (pe_bltn (v := .ty "str") (u := .type "str") rfl (n_str T) (by decide +kernel) rfl) pa_nil)))) (pss_one (ps_ret (pe_and (pe_callB (isiK (K := K) rfl) rfl (n_isinstance T) (by decide +kernel) (pa_cons (pv 0) (pa_cons (pe_bltn (v := .ty "str") (u := .type "str") rfl (n_str T) (by decide +kernel) rfl) pa_nil))) (pe_one (pe_cmpR op_eq (pv 0) (pv 1) (nomark _)))))) pss_nil)
      (pss_cons (ps_if (pt_val (pe_callB (isiK (K := K) rfl) rfl (n_isinstance T) (by decide +kernel) (pa_cons (pv 1) (pa_cons (pe_bltn (v := .ty "dict") (u := .type "dict") rfl (n_dict T) (by decide +kernel) rfl) pa_nil)))) (pss_cons (ps_if (PW.pt (pw_or (pt_not (pt_val (pe_callB (isiK (K := K) rfl) rfl (n_isinstance T) (by decide +kernel) (pa_cons (pv 0) (pa_cons (pe_bltn (v := .ty "dict") (u := .type "dict") rfl (n_dict T) (by decide +kernel) rfl) pa_nil))))) (pw_or1 (pt_cmpR op_ne (pe_callB call_lenD rfl (n_len T) (by decide +kernel) (pa_cons (pv 0) pa_nil)) (pe_callB call_lenD rfl (n_len T) (by decide +kernel) (pa_cons (pv 1) pa_nil)) (nomark _))))) (pss_one (ps_ret pe_bl)) pss_nil)
      (pss_cons (ps_for PassesOwn.never rfl (pi_listK (K := K) rfl (pe_callTy (call_list_dK rfl) rfl (n_list T) (by decide +kernel) (pa_cons (pv 1) pa_nil))) (pg_name (i := 2) sc__law_matches.nd rfl (by first | exact Or.inl rfl | exact Or.inr rfl))
        (pss_one (ps_if (PW.pt (pw_or (pt_cmp (pc_dnotin (du hr.units) (pv 2) (pv 0))) (pw_or1 (pt_not (pt_val (pe_ok (ok_mt2 T) (hr.mono (by first | decide | omega)) rfl pass0 (pa_cons (pe_dget (du hr.units) (pv 0) (pv 2) (fun _ _ => rfl)) (pa_cons (pe_dget (du hr.units) (pv 1) (pv 2) (fun _ _ => rfl)) pa_nil)))))))) (pss_one (ps_ret pe_bl)) pss_nil)))
      (pss_one (ps_ret pe_bl)))) pss_nil)
      (pss_cons (ps_if (PW.pt (pw_and (pt_val (pe_callB (isiK (K := K) rfl) rfl (n_isinstance T) (by decide +kernel) (pa_cons (pv 1) (pa_cons (pe_bltn (v := .ty "tuple") (u := .type "tuple") rfl (n_tuple T) (by decide +kernel) rfl) pa_nil)))) (pw_and1 (pt_not (pt_val (pe_callB (isiK (K := K) rfl) rfl (n_isinstance T) (by decide +kernel) (pa_cons (pv 0) (pa_cons (pe_bltn (v := .ty "tuple") (u := .type "tuple") rfl (n_tuple T) (by decide +kernel) rfl) pa_nil)))))))) (pss_one (ps_ret pe_bl)) pss_nil)
      (pss_cons (ps_if (PW.pt (pw_and (pt_val (pe_callB (isiK (K := K) rfl) rfl (n_isinstance T) (by decide +kernel) (pa_cons (pv 1) (pa_cons (pe_bltn (v := .ty "list") (u := .type "list") rfl (n_list T) (by decide +kernel) rfl) pa_nil)))) (pw_and1 (pt_not (pt_val (pe_callB (isiK (K := K) rfl) rfl (n_isinstance T) (by decide +kernel) (pa_cons (pv 0) (pa_cons (pe_bltn (v := .ty "list") (u := .type "list") rfl (n_list T) (by decide +kernel) rfl) pa_nil)))))))) (pss_one (ps_ret pe_bl)) pss_nil)
      (pss_cons (ps_if (pt_cmpR op_ne (pe_callB call_lenD rfl (n_len T) (by decide +kernel) (pa_cons (pv 0) pa_nil)) (pe_callB call_lenD rfl (n_len T) (by decide +kernel) (pa_cons (pv 1) pa_nil)) (nomark _)) (pss_one (ps_ret pe_bl)) pss_nil)
      (pss_cons (ps_for PassesOwn.never rfl (pi_range1 rfl (n_range T) (pa_cons (pe_callB call_lenD rfl (n_len T) (by decide +kernel) (pa_cons (pv 1) pa_nil)) pa_nil)) (pg_name (i := 3) sc__law_matches.nd rfl (by first | exact Or.inl rfl | exact Or.inr rfl))
        (pss_one (ps_if (pt_not (pt_val (pe_ok (ok__law_matches T) (hr.mono (by first | decide | omega)) rfl pass0 (pa_cons (pe_dget (du hr.units) (pv 0) (pv 3) (fun _ _ => rfl)) (pa_cons (pe_dget (du hr.units) (pv 1) (pv 3) (fun _ _ => rfl)) pa_nil))))) (pss_one (ps_ret pe_bl)) pss_nil)))
      (pss_one (ps_ret pe_bl))))))))))), ?_⟩
    refine ⟨_, rfl, rfl, _, rfl, iteF ⟨_, rfl, rfl, _, rfl, iteF ?_⟩⟩
    refine ⟨_, rfl, ⟨_, _, _, _, _, rfl, .ty _, tx_dk hb, k_db, _, rfl, iteF ⟨_, rfl, ⟨_, _, _, _, _, rfl, .ty _, tx_dk ha, k_db, _, rfl, iteF ?_⟩⟩⟩⟩
    refine ⟨_, rfl, ⟨_, _, _, _, _, rfl, .ty _, tx_dk hb, k_di, _, rfl, iteF ?_⟩⟩
    refine ⟨_, rfl, ⟨_, _, _, _, _, rfl, .ty _, tx_dk hb, k_ds, _, rfl, iteF ?_⟩⟩
    refine ⟨_, rfl, ⟨_, _, _, _, _, rfl, .ty _, tx_dk hb, k_dd, _, rfl, iteT ?_⟩⟩
    refine ⟨_, rfl, ⟨_, _, _, _, _, rfl, .ty _, tx_dk ha, k_dd, _, rfl, iteF ?_⟩⟩
    refine ⟨_, rfl, _, _, rfl, ha, _, rfl, _, _, rfl, hb, rfl, _, rfl, ?_⟩
    rw [decide_eq_true rfl]
    refine iteF ⟨_, rfl, b, ks, rfl, hb, fun l hl0 => ?_⟩
    obtain ⟨s1, g1⟩ := new2 (.lst (ks.map fun kv => kV kv.1)) hl0
    refine ⟨l, rfl, ⟨_, SqL.of g1⟩, for_list (K := K) (a := l) (xs := ks.map fun kv => kV kv.1) (fun i σ H' => ∃ v2, σ = [some (.ref a), some (.ref b), v2, none] ∧ Same H H' ∧ H' l = some (.lst (ks.map fun kv => kV kv.1))) ⟨none, rfl, s1, g1⟩ (fun i σ H' _ ⟨_, _, _, z⟩ => SqL.of z) ?_ ?_⟩
    · rintro i x σ H' hx ⟨v2, rfl, e, hL⟩
      rw [List.getElem?_map] at hx
      obtain ⟨kv, hkv, rfl⟩ := Option.map_eq_some_iff.mp hx
      obtain ⟨n, hn⟩ := hv kv (List.mem_of_getElem? hkv)
      have ga := DGet.k (k := kv.1) (e _ _ ha)
      have gb := DGet.k (k := kv.1) (e _ _ hb)
      rw [hn] at ga gb
      refine ⟨_, rfl, _, rfl, a, _, rfl, ga, _, rfl, iteF ?_⟩
      refine ⟨_, rfl, _, rfl, a, _, rfl, ga, _, rfl, _, rfl, b, _, rfl, gb, ?_⟩
      exact ⟨_, _, rfl, .inl (.inl ⟨n, rfl, rfl⟩), fun H2 s2 => ⟨_, rfl, _, rfl, e.trans s2, s2 _ _ hL⟩⟩
    · rintro σ H' ⟨v2, rfl, e, hL⟩
      exact q _ e
end
end K04
end
section
set_option maxRecDepth 100000
set_option maxHeartbeats 4000000
namespace L2
open PySem PySem.Spec PyProof.Rows
theorem Trip.i2 {K : PySem.W.Frag} {H : Hp} {x : V} {c : T3} (h : Trip H x c) {Q : VK} (q : Q (.int c.2.2) H) : rIx K x (.int 2) H Q := by
  obtain ⟨t, rfl, h⟩ := h
  exact .inr (.inl ⟨t, _, 2, _, rfl, rfl, SqT.of h, rfl, q⟩)
end L2
namespace K04
open PySem PySem.Spec PyProof.Rows L2
section
variable {P : Program} {w : World} {K : PySem.W.Frag} {mg : Str → Option Value} {base : Heap}
def spIn : Sp := fun vs H Q _ => ∃ l xs ws a b, vs = [.ref l, .int a, .int b] ∧ H l = some (.lst xs) ∧ Paired (PairT H) xs ws ∧ ws.length ≤ 1000 ∧ ∀ H', Same H H' → Q (.int (inC a b ws)) H'
theorem ok__law_k04_inside (T : Txt w K mg) : Ok P w K mg base CX0 1 "_law_k04_inside" ["windows", "a", "b"] spIn := by
  refine Ok.def0 (f__law_k04_inside T) (fun _ _ _ _ _ _ us hl => match us, hl with | [_, _, _], _ => rfl) sc__law_k04_inside (fun vs H Q E h => ?_) (fun f cdv A outer s H vs Q E hr h => ?_)
  · obtain ⟨l, xs, ws, a, b, rfl, _⟩ := h
    rfl
  · obtain ⟨l, xs, ws, a, b, rfl, h2, h3, hl, k⟩ := h
    refine ⟨_, (pss_one (ps_ret (pe_callB (len_seqK (K := K) rfl) rfl (n_len T) (by decide +kernel) (pa_cons (pe_lc (own := [("window", 3)]) rfl sc__law_k04_inside.nd (pi_listK (K := K) rfl (pv 0)) (blkOk_by (N := ["windows", "a", "b", "window"]) (sc := defScope s__law_k04_inside) (by decide +kernel)) (fun _ _ _ _ _ => (pg_name (i := 3) sc__law_k04_inside.nd rfl (by first | exact Or.inl rfl | exact Or.inr rfl))) (fun _ _ _ _ _ => pts_one (PW.pt (pw_and (pt_cmpR op_lt (pv 1) (pe_ix (ix_seqK (K := K) rfl) (pv 3) pe_int (fun _ _ => rfl)) (nomark _)) (pw_and1 (pt_cmpR op_le (pe_ix (ix_seqK (K := K) rfl) (pv 3) pe_int (fun _ _ => rfl)) (pv 2) (nomark _)))))) (fun _ _ _ _ _ => (pv 3))) pa_nil)))), ?_⟩
    have hxl : xs.length ≤ 1000 := by rw [Paired.length h3]; exact hl
    refine ⟨_, rfl, l, rfl, ⟨_, SqL.of h2⟩, fun D hD => lc_acc (K := K) (a := l) (xs := xs) hD (SqL.of h2) (by omega) (fun j acc _ => acc.length = inC a b (ws.take j)) (fun _ _ => rfl) ?_ ?_⟩
    · rintro j x acc H' N N0 hx s' hacc hI hN hN0
      obtain ⟨c, hc, hr⟩ := paired_get h3 hx
      refine ⟨rfl, ?_⟩
      refine ⟨_, rfl, _, rfl, (hr.same s').i0 ⟨_, _, rfl, rfl, _, rfl, ?_⟩⟩
      cases q1 : decide (a < c.1) with
      | false => exact iteF (hN0 _ (Same.refl _) (by unfold inC; rw [flt_take hc false (by rw [q1]; rfl)]; exact hI))
      | true =>
        refine ⟨_, rfl, (hr.same s').i1 ⟨_, rfl, _, _, rfl, rfl, _, rfl, ?_⟩⟩
        cases q2 : decide (c.2 ≤ b) with
        | false => exact hN0 _ (Same.refl _) (by unfold inC; rw [flt_take hc false (by rw [q1, q2]; rfl)]; exact hI)
        | true => exact ⟨_, rfl, hN _ _ (Same.refl _) fun _ _ _ => by unfold inC; rw [flt_take hc true (by rw [q1, q2]; rfl), List.length_append, hI]; rfl⟩
    · rintro acc H' s' hacc _ hI
      rw [Paired.length h3, List.take_length] at hI
      refine ⟨D, acc, rfl, .inl (SqL.of hacc), ?_⟩
      rw [hI]
      exact k _ s'
end
end K04
end
section
set_option maxRecDepth 100000
set_option maxHeartbeats 4000000
namespace K04
open PySem PySem.Spec PyProof.Rows L2
theorem order_snoc (wet : List (Key × V)) (d : Int) : ∀ (ws : List (Int × Int)) (c : Int × Int) (k : Int), orderOf wet d k (ws ++ [c]) = orderOf wet d k ws ++ orderOf wet d (k + ws.length) [c]
  | [], c, k => by simp [orderOf]
  | a :: r, c, k => by
    have ih := order_snoc wet d r c (k + 1)
    have e : k + 1 + (r.length : Int) = k + ((a :: r).length : Nat) := by rw [List.length_cons]; omega
    rw [e] at ih
    rw [List.cons_append]
    unfold orderOf
    split <;> simp only [ih, List.cons_append] <;> rfl
theorem order_take {wet : List (Key × V)} {d : Int} {ws : List (Int × Int)} {i : Nat} {c : Int × Int} (h : ws[i]? = some c) : orderOf wet d 1 (ws.take (i + 1)) = orderOf wet d 1 (ws.take i) ++ (if (c.1 ≤ d ∧ d ≤ c.2) ∧ (valV wet (.inl ((i : Int) + 1))).isSome = false then [(c.2, c.1, (i : Int) + 1)] else []) := by
  have hi : i < ws.length := (List.getElem?_eq_some_iff.mp h).1
  rw [take_get h, order_snoc]
  have e : (1 : Int) + ((ws.take i).length : Nat) = (i : Int) + 1 := by rw [List.length_take]; omega
  rw [e]
  rfl
section
variable {P : Program} {w : World} {K : PySem.W.Frag} {mg : Str → Option Value} {base : Heap}
def spServed : Sp := fun vs H Q _ => ∃ l xs ws wa wet d n, vs = [.ref l, .ref wa, .int d, .int n] ∧ H l = some (.lst xs) ∧ Paired (PairT H) xs ws ∧ ws.length ≤ 1000 ∧ (∀ c ∈ ws, VW 24 c) ∧ H wa = some (.dK wet) ∧ 0 ≤ n ∧
  ∀ l' H', H l' = none → Same H H' → H' l' = some (.lst ((served (orderOf wet d 1 ws) n.toNat).map V.int)) → Q (.ref l') H'
theorem ok__law_k04_served (T : Txt w K mg) : Ok P w K mg base CX0 1 "_law_k04_served" ["windows", "wet", "day", "cans"] spServed := by
  refine Ok.def0 (f__law_k04_served T) (fun _ _ _ _ _ _ us hl => match us, hl with | [_, _, _, _], _ => rfl) sc__law_k04_served (fun vs H Q E h => ?_) (fun f cdv A outer s H vs Q E hr h => ?_)
  · obtain ⟨l, xs, ws, wa, wet, d, n, rfl, _⟩ := h
    rfl
  · obtain ⟨l, xs, ws, wa, wet, d, n, rfl, h2, h3, hl, hV, hw, hn, k⟩ := h
    refine ⟨_, (pss_cons (ps_set (i := 4) sc__law_k04_served.nd rfl (by first | exact Or.inl rfl | exact Or.inr rfl) (pe_lst pa_nil))
      (pss_cons (ps_for PassesOwn.never rfl (pi_range1 rfl (n_range T) (pa_cons (pe_callB (len_seqK (K := K) rfl) rfl (n_len T) (by decide +kernel) (pa_cons (pv 0) pa_nil)) pa_nil)) (pg_name (i := 5) sc__law_k04_served.nd rfl (by first | exact Or.inl rfl | exact Or.inr rfl))
        (pss_cons (ps_set (i := 6) sc__law_k04_served.nd rfl (by first | exact Or.inl rfl | exact Or.inr rfl) (pe_ix (ix_listK (K := K) rfl) (pv 0) (pv 5) (fun _ _ => rfl)))
      (pss_one (ps_if (PW.pt (pw_and (pt_chain op_le op_le (pe_ix (ix_seqK (K := K) rfl) (pv 6) pe_int (fun _ _ => rfl)) (pv 2) (pe_ix (ix_seqK (K := K) rfl) (pv 6) pe_int (fun _ _ => rfl))) (pw_and1 (pt_cmp (pc_dnotin (du hr.units) (pe_op op_add (pv 5) pe_int) (pv 1)))))) (pss_one (ps_expr (pe_bm PySem.F.plainAttrs_list PySem.F.slot_list_append PySem.F.type_list_append mt_append (pv 4) (pa_cons (pe_tup (pa_cons (pe_ix (ix_seqK (K := K) rfl) (pv 6) pe_int (fun _ _ => rfl)) (pa_cons (pe_ix (ix_seqK (K := K) rfl) (pv 6) pe_int (fun _ _ => rfl)) (pa_cons (pe_op op_add (pv 5) pe_int) pa_nil)))) pa_nil)))) pss_nil))))
      (pss_cons (ps_set (i := 4) sc__law_k04_served.nd rfl (by first | exact Or.inl rfl | exact Or.inr rfl) (pe_callB (sorted3K (K := K) rfl) rfl (n_sorted T) (by decide +kernel) (pa_cons (pv 4) pa_nil)))
      (pss_one (ps_ret (pe_callB (sortedIK (K := K) rfl) rfl (n_sorted T) (by decide +kernel) (pa_cons (pe_lc (own := [("row", 7)]) rfl sc__law_k04_served.nd (pi_listK (K := K) rfl (pe_slice (sl_listK (K := K) rfl) (pv 4) po_none (po_some (pv 3)))) (blkOk_by (N := ["windows", "wet", "day", "cans", "rows", "at", "window", "row"]) (sc := defScope s__law_k04_served) (by decide +kernel)) (fun _ _ _ _ _ => (pg_name (i := 7) sc__law_k04_served.nd rfl (by first | exact Or.inl rfl | exact Or.inr rfl))) (fun _ _ _ _ _ => pts_nil) (fun _ _ _ _ _ => (pe_ix (ix_seqK (K := K) rfl) (pv 7) pe_int (fun _ _ => rfl)))) pa_nil))))))), ?_⟩
    have hxl : xs.length ≤ 1000 := by rw [Paired.length h3]; exact hl
    refine ⟨(by show 0 ≤ sizeLine; decide), fun m hm => ?_⟩
    obtain ⟨s1, g1⟩ := new2 (.lst []) hm
    refine ⟨_, rfl, _, _, rfl, .inl (SqL.of (s1 _ _ h2)), _, rfl, by omega, by omega, for_upto (lo := 0) (L := ws.length) (by rw [Paired.length h3]; omega) (fun i σ H' => ∃ v5 v6 ys cs, σ = [some (.ref l), some (.ref wa), some (.int d), some (.int n), some (.ref m), v5, v6, none] ∧ Same H H' ∧ H' m = some (.lst ys) ∧ Paired (Trip H') ys cs ∧ cs = orderOf wet d 1 (ws.take i)) ⟨_, _, [], [], rfl, s1, g1, .nil, rfl⟩ ?_ ?_⟩
    · rintro i σ H' hi ⟨v5, v6, ys, cs, rfl, e, hO, hP, hcs⟩
      obtain ⟨c, hc⟩ : ∃ c, ws[i]? = some c := ⟨ws[i], List.getElem?_eq_getElem hi⟩
      obtain ⟨x, hx⟩ : ∃ x, xs[i]? = some x := ⟨xs[i]'(by rw [Paired.length h3]; exact hi), List.getElem?_eq_getElem _⟩
      obtain ⟨c', hc', hr⟩ := paired_get h3 hx
      rw [hc] at hc'
      cases hc'
      have hr := hr.same e
      have hyl : ys.length ≤ 1000 := by
        rw [Paired.length hP, hcs]
        refine Nat.le_trans (order_len wet d _ 1) ?_
        rw [List.length_take]
        omega
      have stp := order_take (wet := wet) (d := d) hc
      rw [← hcs] at stp
      have z0 : (0 : Int) + (i : Int) + 1 = (i : Int) + 1 := by omega
      have skip : ¬ ((c.1 ≤ d ∧ d ≤ c.2) ∧ (valV wet (.inl ((i : Int) + 1))).isSome = false) → cs = orderOf wet d 1 (ws.take (i + 1)) := fun z => by rw [stp, if_neg z, List.append_nil]
      refine ⟨_, rfl, _, rfl, l, _, _, _, rfl, rfl, SqL.of (e _ _ h2), at_of (by omega) hx, ?_⟩
      refine ⟨_, rfl, hr.i0 ⟨_, rfl, _, _, rfl, rfl, _, rfl, ?_⟩⟩
      cases q1 : decide (c.1 ≤ d) with
      | false => exact ⟨_, rfl, iteF ⟨_, _, ys, cs, rfl, e, hO, hP, skip fun z => absurd z.1.1 (of_decide_eq_false q1)⟩⟩
      | true =>
        refine ⟨_, rfl, hr.i1 ⟨_, _, rfl, rfl, _, rfl, ?_⟩⟩
        refine ite2 (fun q2 => ?_) (fun q2 => iteF ⟨_, _, ys, cs, rfl, e, hO, hP, skip fun z => q2 (decide_eq_true z.1.2)⟩)
        refine ⟨_, rfl, _, _, rfl, rfl, _, rfl, wa, _, rfl, DGet.k (k := .inl (0 + (i : Int) + 1)) (e _ _ hw), _, rfl, ?_⟩
        rw [z0]
        cases hw2 : (valV wet (.inl ((i : Int) + 1))).isSome with
        | true => exact iteF ⟨_, _, ys, cs, rfl, e, hO, hP, skip fun z => by rw [hw2] at z; exact absurd z.2 (by decide)⟩
        | false =>
          rw [if_pos ⟨⟨of_decide_eq_true q1, of_decide_eq_true q2⟩, hw2⟩] at stp
          refine iteT ⟨_, rfl, .inl ⟨rfl, _, SqL.of hO⟩, _, rfl, hr.i1 ⟨_, rfl, hr.i0 ⟨_, rfl, _, _, rfl, rfl, (by show 3 ≤ sizeLine; decide), fun t ht => ?_⟩⟩⟩
          obtain ⟨s5, g5⟩ := new2 (.tup [.int c.2, .int c.1, .int (0 + (i : Int) + 1)]) ht
          have hO5 := s5 _ _ hO
          refine ⟨m, ys, _, rfl, rfl, hO5, line_lt (by omega), ?_⟩
          refine ⟨_, _, ys ++ [V.ref t], cs ++ [(c.2, c.1, (i : Int) + 1)], rfl, same_mut (e.trans s5) hm, upd_same, ?_, stp.symm⟩
          exact paired_snoc (Paired.mapP hP fun _ _ z => Trip.mut hO5 (Trip.same s5 z)) (Trip.mut hO5 ⟨t, rfl, by rw [g5, z0]⟩)
    · rintro σ H' ⟨v5, v6, ys, cs, rfl, e, hO, hP, hcs⟩
      rw [List.take_length] at hcs
      subst hcs
      have hB := order_ok wet d ws 1 (by omega) (by omega) hV
      have hlen : ys.length ≤ 1000 := by rw [Paired.length hP]; exact Nat.le_trans (order_len wet d ws 1) hl
      refine ⟨_, rfl, m, ys, rfl, SqL.of hO, trips_ok hP hB, fun zs p pm pw hp => ?_⟩
      have hs := sorted3 hP hB pm pw
      obtain ⟨s2, g2⟩ := new2 (.lst zs) hp
      have hs := Paired.mapP hs fun _ _ z => Trip.same s2 z
      refine ⟨_, rfl, _, rfl, n, rfl, p, zs, rfl, SqL.of g2, fun q hq => ?_⟩
      have hcut : cutV zs none (some n) = zs.take n.toNat := cut_take zs (by omega)
      rw [hcut]
      obtain ⟨s3, g3⟩ := new2 (.lst (zs.take n.toNat)) hq
      have hzl : zs.length ≤ 1000 := by rw [pm.length_eq]; exact hlen
      have hs3 := Paired.mapP hs fun _ _ z => Trip.same s3 z
      refine ⟨q, rfl, ⟨_, SqL.of g3⟩, fun D hD => lc_acc (K := K) (a := q) (xs := zs.take n.toNat) hD (SqL.of g3) (by rw [List.length_take]; omega) (fun j acc _ => acc = (((srt3 (orderOf wet d 1 ws)).take j).map fun c => V.int c.2.2)) (fun _ _ => rfl) ?_ ?_⟩
      · rintro j x acc H4 N N0 hx s' hacc hI hN hN0
        have hx' : zs[j]? = some x := by
          rw [List.getElem?_take] at hx
          split at hx
          · exact hx
          · cases hx
        obtain ⟨c, hc, hr⟩ := paired_get hs3 hx'
        refine ⟨rfl, ?_⟩
        exact ⟨_, rfl, Trip.i2 (Trip.same s' hr) (hN _ _ (Same.refl _) fun _ _ _ => by rw [take_get hc, List.map_append, hI]; rfl)⟩
      · rintro acc H4 s' hacc _ hI
        have hlen2 : (zs.take n.toNat).length = min n.toNat (srt3 (orderOf wet d 1 ws)).length := by rw [List.length_take, Paired.length hs]
        have hI' : acc = (((srt3 (orderOf wet d 1 ws)).take n.toNat).map fun c => c.2.2).map V.int := by
          rw [hI, hlen2, List.map_map]
          congr 1
          exact List.take_eq_take_iff.mpr (by omega)
        refine ⟨D, _, rfl, hI' ▸ SqL.of hacc, fun ns l' pm2 pw2 hl' => ?_⟩
        have e2 := srtI_of pm2 pw2
        obtain ⟨s5, g5⟩ := new2 (.lst (ns.map V.int)) hl'
        have s6 := ((e.trans s2).trans s3).trans s'
        exact k l' _ (s6.nn hl') (s6.trans s5) (by rw [g5, e2]; rfl)
end
end K04
end
section
set_option maxRecDepth 100000
set_option maxHeartbeats 4000000
namespace K04
open PySem PySem.Spec PyProof.Rows L2
section
variable {P : Program} {w : World} {K : PySem.W.Frag} {mg : Str → Option Value} {base : Heap}
/-- a window that is none -/
def spWrong : Sp := fun vs H Q _ => ∃ sa d, vs = [.ref sa, .int d] ∧ 1 ≤ d ∧ d ≤ 24 ∧ Stk H sa ∧ ∀ p c H', But sa H H' → Stk H' sa → H p = none → H' p = some (.tup [.int c.1, .int c.2]) → badW d c = true → Q (.ref p) H'
theorem ok__law_k04_wrong (T : Txt w K mg) : Ok P w K mg base CX0 2 "_law_k04_wrong" ["stock", "days"] spWrong := by
  refine Ok.def0 (f__law_k04_wrong T) (fun _ _ _ _ _ _ us hl => match us, hl with | [_, _], _ => rfl) sc__law_k04_wrong (fun vs H Q E h => ?_) (fun f cdv A outer s H vs Q E hr h => ?_)
  · obtain ⟨sa, d, rfl, _⟩ := h
    rfl
  · obtain ⟨sa, d, rfl, h1, h2, hst, k⟩ := h
    refine ⟨_, (pss_cons (ps_set (i := 2) sc__law_k04_wrong.nd rfl (by first | exact Or.inl rfl | exact Or.inr rfl) (pe_ok (ok__law_draw T) (hr.mono (by first | decide | omega)) rfl pass0 (pa_cons (pv 0) (pa_cons pe_int pa_nil))))
      (pss_cons (ps_set (i := 3) sc__law_k04_wrong.nd rfl (by first | exact Or.inl rfl | exact Or.inr rfl) (pe_op op_add pe_int (pe_ok (ok__law_draw T) (hr.mono (by first | decide | omega)) rfl pass0 (pa_cons (pv 0) (pa_cons (pv 1) pa_nil)))))
      (pss_cons (ps_if (pt_cmpR op_eq (pv 2) pe_int (nomark _)) (pss_one (ps_ret (pe_tup (pa_cons pe_int (pa_cons (pv 3) pa_nil))))) pss_nil)
      (pss_cons (ps_if (pt_cmpR op_eq (pv 2) pe_int (nomark _)) (pss_one (ps_ret (pe_tup (pa_cons (pv 3) (pa_cons (pe_op op_sub (pv 3) pe_int) pa_nil))))) pss_nil)
      (pss_one (ps_ret (pe_tup (pa_cons (pv 3) (pa_cons (pe_op op_add (pv 1) pe_int) pa_nil))))))))), ?_⟩
    refine ⟨_, rfl, sa, 3, rfl, by decide, by decide, hst, fun kd x y z r0 r1 => ?_⟩
    refine ⟨_, rfl, _, rfl, sa, d, rfl, by omega, by omega, stk_upd, fun fr x1 y1 z1 r2 r3 => ⟨_, _, rfl, rfl, ?_⟩⟩
    have b3 : But sa H (upd (upd H sa (stk x y z)) sa (stk x1 y1 z1)) := (But.refl sa H).upd.upd
    have hst3 : Stk (upd (upd H sa (stk x y z)) sa (stk x1 y1 z1)) sa := stk_upd
    generalize upd (upd H sa (stk x y z)) sa (stk x1 y1 z1) = H3 at b3 hst3 ⊢
    have fin : ∀ (c : Int × Int), badW d c = true → ∀ p, H3 p = none → Q (.ref p) (upd H3 p (.tup [.int c.1, .int c.2])) := fun c hc p hp => by
      obtain ⟨s5, g5⟩ := new2 (.tup [.int c.1, .int c.2]) hp
      refine k p c _ (b3.trans (But.of s5)) (hst3.same s5) ?_ g5 hc
      cases q : H p with
      | none => rfl
      | some o =>
        have ne : p ≠ sa := fun z => hst3.ne (z ▸ hp)
        rw [b3 p o q ne] at hp
        cases hp
    refine ⟨_, rfl, rfl, _, rfl, ite2 (fun c => ?_) (fun c => ⟨_, rfl, rfl, _, rfl, ite2 (fun c2 => ?_) (fun c2 => ?_)⟩)⟩
    · exact ⟨_, rfl, (by show 2 ≤ sizeLine; decide), fin (0, 1 + fr) (by simp [badW])⟩
    · exact ⟨_, rfl, _, rfl, _, _, rfl, rfl, (by show 2 ≤ sizeLine; decide), fin (1 + fr, 1 + fr - 1) (by simp [badW]; omega)⟩
    · exact ⟨_, rfl, _, rfl, _, _, rfl, rfl, (by show 2 ≤ sizeLine; decide), fin (1 + fr, d + 1) (by simp [badW]; omega)⟩
end
end K04
end
section
set_option maxRecDepth 100000
set_option maxHeartbeats 4000000
namespace L2
open PySem PySem.Spec PyProof.Rows
/-! ### dicts from ints to ints, ascending -/
def dI (ps : List (Int × Int)) : List (Key × V) := ps.map fun c => (Sum.inl c.1, V.int c.2)
theorem dI_none : ∀ {ps : List (Int × Int)} {k : Int}, (∀ c ∈ ps, c.1 ≠ k) → valV (dI ps) (.inl k : Key) = none
  | [], _, _ => rfl
  | c :: r, k, h => by
    show valV ((Sum.inl c.1, V.int c.2) :: dI r) _ = none
    rw [valV_neg (fun z => h c List.mem_cons_self (Sum.inl.inj z))]
    exact dI_none fun d hd => h d (List.mem_cons_of_mem _ hd)
theorem dI_some : ∀ {ps : List (Int × Int)}, ps.Pairwise (fun a b => a.1 < b.1) → ∀ c ∈ ps, valV (dI ps) (.inl c.1 : Key) = some (.int c.2)
  | [], _, c, hc => by cases hc
  | a :: r, h, c, hc => by
    rw [List.pairwise_cons] at h
    show valV ((Sum.inl a.1, V.int a.2) :: dI r) _ = _
    rcases List.mem_cons.mp hc with rfl | hc
    · exact valV_pos rfl
    · rw [valV_neg (fun z => by have := h.1 c hc; have := Sum.inl.inj z; omega)]
      exact dI_some h.2 c hc
theorem dI_put {ps : List (Int × Int)} {k n : Int} (h : ∀ c ∈ ps, c.1 < k) : putK (dI ps) (.inl k : Key) (.int n) = dI (ps ++ [(k, n)]) := by
  rw [putK_new _ (dI_none fun c hc => by have := h c hc; omega)]
  unfold dI
  rw [List.map_append]
  rfl
end L2
namespace K04
open PySem PySem.Spec PyProof.Rows L2
section
variable {P : Program} {w : World} {K : PySem.W.Frag} {mg : Str → Option Value} {base : Heap}
def spWet : Sp := fun vs H Q _ => ∃ sa l xs ws d, vs = [.ref sa, .ref l, .int d] ∧ H l = some (.lst xs) ∧ Paired (PairT H) xs ws ∧ ws.length ≤ 1000 ∧ (∀ c ∈ ws, VW 24 c) ∧ l ≠ sa ∧ d ≤ 24 ∧ Stk H sa ∧
  ∀ p ps H', But sa H H' → Stk H' sa → H p = none → H' p = some (.dK (dI ps)) → ps.length ≤ ws.length → ps.Pairwise (fun a b => a.1 < b.1) → Q (.ref p) H'
theorem ok__law_k04_wet (T : Txt w K mg) : Ok P w K mg base CX0 2 "_law_k04_wet" ["stock", "windows", "day"] spWet := by
  refine Ok.def0 (f__law_k04_wet T) (fun _ _ _ _ _ _ us hl => match us, hl with | [_, _, _], _ => rfl) sc__law_k04_wet (fun vs H Q E h => ?_) (fun f cdv A outer s H vs Q E hr h => ?_)
  · obtain ⟨sa, l, xs, ws, d, rfl, _⟩ := h
    rfl
  · obtain ⟨sa, l, xs, ws, d, rfl, h2, h3, hl, hV, hne, hd, hst0, k⟩ := h
    refine ⟨_, (pss_cons (ps_set (i := 3) sc__law_k04_wet.nd rfl (by first | exact Or.inl rfl | exact Or.inr rfl) pe_dnewK)
      (pss_cons (ps_for PassesOwn.never rfl (pi_range1 rfl (n_range T) (pa_cons (pe_callB (len_seqK (K := K) rfl) rfl (n_len T) (by decide +kernel) (pa_cons (pv 1) pa_nil)) pa_nil)) (pg_name (i := 4) sc__law_k04_wet.nd rfl (by first | exact Or.inl rfl | exact Or.inr rfl))
        (pss_cons (ps_set (i := 5) sc__law_k04_wet.nd rfl (by first | exact Or.inl rfl | exact Or.inr rfl) (pe_ix (ix_listK (K := K) rfl) (pv 1) (pv 4) (fun _ _ => rfl)))
      (pss_one (ps_if (PW.pt (pw_and (pt_cmpR op_lt (pe_ix (ix_seqK (K := K) rfl) (pv 5) pe_int (fun _ _ => rfl)) (pv 2) (nomark _)) (pw_and1 (pt_cmpR op_eq (pe_ok (ok__law_draw T) (hr.mono (by first | decide | omega)) rfl pass0 (pa_cons (pv 0) (pa_cons pe_int pa_nil))) pe_int (nomark _))))) (pss_one (ps_asg (pe_op op_add (pe_ix (ix_seqK (K := K) rfl) (pv 5) pe_int (fun _ _ => rfl)) (pe_ok (ok__law_draw T) (hr.mono (by first | decide | omega)) rfl pass0 (pa_cons (pv 0) (pa_cons (pe_op op_add (pe_op op_sub (pe_callB (call_min2 rfl) rfl (n_min T) (by decide +kernel) (pa_cons (pe_ix (ix_seqK (K := K) rfl) (pv 5) pe_int (fun _ _ => rfl)) (pa_cons (pe_op op_sub (pv 2) pe_int) pa_nil))) (pe_ix (ix_seqK (K := K) rfl) (pv 5) pe_int (fun _ _ => rfl))) pe_int) pa_nil)))) (pg_sub (pv 3) (pe_op op_add (pv 4) pe_int) (set_dict (du hr.units))))) pss_nil))))
      (pss_one (ps_ret (pv 3))))), ?_⟩
    have hxl : xs.length ≤ 1000 := by rw [Paired.length h3]; exact hl
    refine fun m hm => ?_
    obtain ⟨s1, g1⟩ := new2 (.dK []) hm
    have hms : m ≠ sa := fun z => hst0.ne (z ▸ hm)
    refine ⟨_, rfl, _, _, rfl, .inl (SqL.of (s1 _ _ h2)), _, rfl, by omega, by omega, for_upto (lo := 0) (L := ws.length) (by rw [Paired.length h3]; omega) (fun i σ H' => ∃ v4 v5 ps, σ = [some (.ref sa), some (.ref l), some (.int d), some (.ref m), v4, v5] ∧ But sa H H' ∧ Stk H' sa ∧ H' m = some (.dK (dI ps)) ∧ ps.length ≤ i ∧ ps.Pairwise (fun a b => a.1 < b.1) ∧ ∀ c ∈ ps, c.1 ≤ i) ⟨_, _, [], rfl, But.of s1, hst0.same s1, g1, Nat.le_refl _, .nil, fun c hc => by cases hc⟩ ?_ ?_⟩
    · rintro i σ H' hi ⟨v4, v5, ps, rfl, b, hst, hD, hpl, hpw, hpk⟩
      obtain ⟨c, hc⟩ : ∃ c, ws[i]? = some c := ⟨ws[i], List.getElem?_eq_getElem hi⟩
      obtain ⟨x, hx⟩ : ∃ x, xs[i]? = some x := ⟨xs[i]'(by rw [Paired.length h3]; exact hi), List.getElem?_eq_getElem _⟩
      obtain ⟨c', hc', hr⟩ := paired_get h3 hx
      rw [hc] at hc'
      cases hc'
      have hVc := hV c (List.mem_of_getElem? hc)
      unfold VW at hVc
      have hr1 := hr.bx hst0 (Bx.of_but b)
      refine ⟨_, rfl, _, rfl, l, _, _, _, rfl, rfl, SqL.of (b _ _ h2 hne), at_of (by omega) hx, ?_⟩
      refine ⟨_, rfl, hr1.i0 ⟨_, rfl, _, _, rfl, rfl, _, rfl, ?_⟩⟩
      refine ite2 (fun q1 => ?_) (fun q1 => iteF ⟨_, _, ps, rfl, b, hst, hD, by omega, hpw, fun c hc => by have := hpk c hc; omega⟩)
      have q1 := of_decide_eq_true q1
      refine ⟨_, rfl, sa, 3, rfl, by decide, by decide, hst, fun kd x y z r0 r1 => ?_⟩
      have b2 : But sa H (upd H' sa (stk x y z)) := b.upd
      have hD2 : upd H' sa (stk x y z) m = some (.dK (dI ps)) := by rw [upd_ne hms]; exact hD
      have hst2 : Stk (upd H' sa (stk x y z)) sa := stk_upd
      refine ⟨rfl, _, rfl, ?_⟩
      refine ite2 (fun q2 => ?_) (fun q2 => ⟨_, _, ps, rfl, b2, hst2, hD2, by omega, hpw, fun c hc => by have := hpk c hc; omega⟩)
      have hr2 := hr1.bx hst (Bx.of_but (But.refl sa H').upd : Bx sa H' (upd H' sa (stk x y z)))
      refine ⟨_, rfl, hr2.i0 ⟨_, rfl, _, rfl, hr2.i1 ⟨_, rfl, _, _, rfl, rfl, _, _, rfl, _, rfl, hr2.i0 ⟨_, _, rfl, rfl, _, _, rfl, rfl, sa, _, rfl, (by split <;> omega), (by split <;> omega), hst2, fun r x1 y1 z1 r2 r3 => ⟨_, _, rfl, rfl, ?_⟩⟩⟩⟩⟩
      have b3 : But sa H (upd (upd H' sa (stk x y z)) sa (stk x1 y1 z1)) := b2.upd
      have hD3 : upd (upd H' sa (stk x y z)) sa (stk x1 y1 z1) m = some (.dK (dI ps)) := by rw [upd_ne hms]; exact hD2
      have hst3 : Stk (upd (upd H' sa (stk x y z)) sa (stk x1 y1 z1)) sa := stk_upd
      generalize upd (upd H' sa (stk x y z)) sa (stk x1 y1 z1) = H3 at b3 hst3 hD3 ⊢
      have z0 : (0 : Int) + (i : Int) + 1 = (i : Int) + 1 := by omega
      have hput := dI_put (ps := ps) (k := (i : Int) + 1) (n := c.1 + r) fun c hc => by have := hpk c hc; omega
      refine ⟨_, rfl, _, rfl, _, _, rfl, rfl, m, _, rfl, DPut.k (k := .inl (0 + (i : Int) + 1)) hD3 (by unfold dI; rw [List.length_map]; exact line_lt (by omega)), ?_⟩
      rw [z0, hput]
      refine ⟨_, _, ps ++ [((i : Int) + 1, c.1 + r)], rfl, b3.mut hm, hst3.but hms.symm, upd_same, by rw [List.length_append]; exact Nat.succ_le_succ hpl, ?_, ?_⟩
      · rw [List.pairwise_append]
        refine ⟨hpw, List.pairwise_singleton _ _, fun a ha e he => ?_⟩
        obtain rfl := List.mem_singleton.mp he
        have := hpk a ha
        show a.1 < (i : Int) + 1
        omega
      · intro a ha
        rcases List.mem_append.mp ha with ha | ha
        · have := hpk a ha
          omega
        · obtain rfl := List.mem_singleton.mp ha
          show (i : Int) + 1 ≤ ((i + 1 : Nat) : Int)
          omega
    · rintro σ H' ⟨v4, v5, ps, rfl, b, hst, hD, hpl, hpw, _⟩
      exact ⟨_, rfl, k m ps H' b hst hm hD hpl hpw⟩
end
end K04
end
section
set_option maxRecDepth 100000
set_option maxHeartbeats 4000000
namespace L2
open PySem PySem.Spec PyProof.Rows
theorem mt_pair {H : Hp} {x y : V} {c : Int × Int} (h1 : PairT H x c) (h2 : PairT H y c) : Mt 1 H x y := by
  obtain ⟨a, rfl, ha⟩ := h1
  obtain ⟨b, rfl, hb⟩ := h2
  refine .inr ⟨a, b, _, _, rfl, rfl, .inr ⟨ha, hb⟩, rfl, by show 2 ≤ 1000; decide, fun i u v hu hv => ?_⟩
  rw [hu] at hv
  cases hv
  match i, hu with
  | 0, hu => cases hu; exact .inl ⟨_, rfl, rfl⟩
  | 1, hu => cases hu; exact .inl ⟨_, rfl, rfl⟩
  | (n + 2), hu => simp at hu
theorem mt_pairs {H : Hp} {a b : Addr} {xs ys : List V} {ws : List (Int × Int)} (hz : ws.length ≤ 1000) (ha : H a = some (.lst xs)) (hb : H b = some (.lst ys)) (h1 : Paired (PairT H) xs ws) (h2 : Paired (PairT H) ys ws) : Mt 2 H (.ref a) (.ref b) := by
  have e1 := Paired.length h1
  have e2 := Paired.length h2
  refine .inr ⟨a, b, xs, ys, rfl, rfl, .inl ⟨ha, hb⟩, e1.trans e2.symm, by rw [e2]; exact hz, fun i x y hx hy => ?_⟩
  obtain ⟨c, hc, r⟩ := paired_get h1 hx
  obtain ⟨d, hd, t⟩ := paired_get h2 hy
  rw [hc] at hd
  cases hd
  exact mt_pair r t
theorem mt_ints2 {H : Hp} {a b : Addr} {ns : List Int} (hz : ns.length ≤ 1000) (ha : H a = some (.lst (ns.map V.int))) (hb : H b = some (.lst (ns.map V.int))) : Mt 2 H (.ref a) (.ref b) := by
  refine .inr ⟨a, b, _, _, rfl, rfl, .inl ⟨ha, hb⟩, rfl, by rw [ints_len]; exact hz, fun i x y hx hy => ?_⟩
  obtain ⟨n, _, rfl⟩ := ints_get hx
  rw [hx] at hy
  cases hy
  exact .inl (.inl ⟨n, rfl, rfl⟩)
theorem mt_int2 {H : Hp} (n : Int) : Mt 2 H (.int n) (.int n) := .inl (.inl ⟨n, rfl, rfl⟩)
end L2
namespace K04
open PySem PySem.Spec PyProof.Rows L2
theorem opens_snoc (d : Int) : ∀ (ws : List (Int × Int)) (c : Int × Int) (k : Int), opens d k (ws ++ [c]) = opens d k ws ++ opens d (k + ws.length) [c]
  | [], c, k => by simp [opens]
  | a :: r, c, k => by
    have ih := opens_snoc d r c (k + 1)
    have e : k + 1 + (r.length : Int) = k + ((a :: r).length : Nat) := by rw [List.length_cons]; omega
    rw [e] at ih
    rw [List.cons_append]
    unfold opens
    split <;> simp only [ih, List.cons_append] <;> rfl
theorem opens_take {d : Int} {ws : List (Int × Int)} {i : Nat} {c : Int × Int} (h : ws[i]? = some c) : opens d 1 (ws.take (i + 1)) = opens d 1 (ws.take i) ++ (if c.1 ≤ d ∧ d ≤ c.2 then [(i : Int) + 1] else []) := by
  have hi : i < ws.length := (List.getElem?_eq_some_iff.mp h).1
  rw [take_get h, opens_snoc]
  have e : (1 : Int) + ((ws.take i).length : Nat) = (i : Int) + 1 := by rw [List.length_take]; omega
  rw [e]
  rfl
section
variable {P : Program} {w : World} {K : PySem.W.Frag} {mg : Str → Option Value} {base : Heap}
def spCounts (K : PySem.W.Frag) : Sp := fun vs H Q _ => ∃ d l xs ws gp, vs = [.int d, .ref l, .ref gp] ∧ H l = some (.lst xs) ∧ Paired (PairT H) xs ws ∧ GardenAt K H gp d ws ∧ 1 ≤ d ∧ d ≤ 24 ∧ ws.length ≤ 120 ∧ (∀ c ∈ ws, VW d c) ∧ ∀ H', Same H H' → Q (.bl true) H'
theorem ok__law_k04_counts (T : Txt w K mg) : Ok P w K mg base CX0 8 "_law_k04_counts" ["days", "windows", "garden"] (spCounts K) := by
  refine Ok.def0 (f__law_k04_counts T) (fun _ _ _ _ _ _ us hl => match us, hl with | [_, _, _], _ => rfl) sc__law_k04_counts (fun vs H Q E h => ?_) (fun f cdv A outer s H vs Q E hr h => ?_)
  · obtain ⟨d, l, xs, ws, gp, rfl, _⟩ := h
    rfl
  · obtain ⟨d, l, xs, ws, gp, rfl, h2, h3, hG, d1, d2, hl, hV, k⟩ := h
    have ok__law_matches := fun (T : Txt w K mg) => ok_mt2 (P := P) (base := base) T
    refine ⟨_, (pss_cons (ps_if (PW.pt (pw_or (pt_not (pt_val (pe_ok (ok__law_matches T) (hr.mono (by first | decide | omega)) rfl pass0 (pa_cons (pe_okM0 (okm_Garden_days T) (cl_Garden T) (pv 2) (hr.mono (by first | decide | omega)) pass0) (pa_cons (pv 0) pa_nil))))) (pw_or1 (pt_not (pt_val (pe_ok (ok__law_matches T) (hr.mono (by first | decide | omega)) rfl pass0 (pa_cons (pe_okM0 (okm_Garden_many T) (cl_Garden T) (pv 2) (hr.mono (by first | decide | omega)) pass0) (pa_cons (pe_callB (len_seqK (K := K) rfl) rfl (n_len T) (by decide +kernel) (pa_cons (pv 1) pa_nil)) pa_nil)))))))) (pss_one (ps_ret pe_bl)) pss_nil)
      (pss_cons (ps_set (i := 3) sc__law_k04_counts.nd rfl (by first | exact Or.inl rfl | exact Or.inr rfl) (pe_okM0 (okm_Garden_rows T) (cl_Garden T) (pv 2) (hr.mono (by first | decide | omega)) pass0))
      (pss_cons (ps_if (pt_not (pt_val (pe_ok (ok__law_matches T) (hr.mono (by first | decide | omega)) rfl pass0 (pa_cons (pv 3) (pa_cons (pv 1) pa_nil))))) (pss_one (ps_ret pe_bl)) pss_nil)
      (pss_cons (ps_expr (pe_bm PySem.F.plainAttrs_list PySem.F.slot_list_append PySem.F.type_list_append mt_append (pv 3) (pa_cons (pe_tup (pa_cons pe_int (pa_cons pe_int pa_nil))) pa_nil)))
      (pss_cons (ps_if (pt_not (pt_val (pe_ok (ok__law_matches T) (hr.mono (by first | decide | omega)) rfl pass0 (pa_cons (pe_okM0 (okm_Garden_rows T) (cl_Garden T) (pv 2) (hr.mono (by first | decide | omega)) pass0) (pa_cons (pv 1) pa_nil))))) (pss_one (ps_ret pe_bl)) pss_nil)
      (pss_cons (ps_for PassesOwn.never rfl (pi_range1 rfl (n_range T) (pa_cons (pe_op op_add (pv 0) pe_int) pa_nil)) (pg_name (i := 4) sc__law_k04_counts.nd rfl (by first | exact Or.inl rfl | exact Or.inr rfl))
        (pss_one (ps_for PassesOwn.never rfl (pi_range1 rfl (n_range T) (pa_cons (pe_op op_add (pv 4) pe_int) pa_nil)) (pg_name (i := 5) sc__law_k04_counts.nd rfl (by first | exact Or.inl rfl | exact Or.inr rfl))
        (pss_one (ps_if (pt_not (pt_val (pe_ok (ok__law_matches T) (hr.mono (by first | decide | omega)) rfl pass0 (pa_cons (pe_okM (okm_Garden_inside T) (cl_Garden T) (pv 2) (hr.mono (by first | decide | omega)) passL (pa_cons (pv 5) (pa_cons (pv 4) pa_nil))) (pa_cons (pe_ok (ok__law_k04_inside T) (hr.mono (by first | decide | omega)) rfl pass0 (pa_cons (pv 1) (pa_cons (pv 5) (pa_cons (pv 4) pa_nil)))) pa_nil))))) (pss_one (ps_ret pe_bl)) pss_nil)))))
      (pss_cons (ps_for PassesOwn.never rfl (pi_range2 rfl (n_range T) (pa_cons pe_int (pa_cons (pe_op op_add (pv 0) pe_int) pa_nil))) (pg_name (i := 6) sc__law_k04_counts.nd rfl (by first | exact Or.inl rfl | exact Or.inr rfl))
        (pss_cons (ps_setLc (i := 8) (own := [("at", 7)]) rfl sc__law_k04_counts.nd rfl rfl (sw_true rfl rfl rfl (by decide +kernel)) (pi_range1 rfl (n_range T) (pa_cons (pe_callB (len_seqK (K := K) rfl) rfl (n_len T) (by decide +kernel) (pa_cons (pv 1) pa_nil)) pa_nil)) (blkOk_by (N := ["days", "windows", "garden", "told", "b", "a", "day", "at", "due"]) (sc := defScope s__law_k04_counts) (by decide +kernel)) (fun _ _ _ _ _ => (pg_name (i := 7) sc__law_k04_counts.nd rfl (by first | exact Or.inl rfl | exact Or.inr rfl))) (fun _ _ _ _ _ => pts_one (pt_chain op_le op_le (pe_ix (ix_seqK (K := K) rfl) (pe_ix (ix_listK (K := K) rfl) (pv 1) (pv 7) (fun _ _ => rfl)) pe_int (fun _ _ => rfl)) (pv 6) (pe_ix (ix_seqK (K := K) rfl) (pe_ix (ix_listK (K := K) rfl) (pv 1) (pv 7) (fun _ _ => rfl)) pe_int (fun _ _ => rfl)))) (fun _ _ _ _ _ => (pe_op op_add (pv 7) pe_int)))
      (pss_cons (ps_set (i := 3) sc__law_k04_counts.nd rfl (by first | exact Or.inl rfl | exact Or.inr rfl) (pe_okM (okm_Garden_open_on T) (cl_Garden T) (pv 2) (hr.mono (by first | decide | omega)) passL (pa_cons (pv 6) pa_nil)))
      (pss_cons (ps_if (pt_not (pt_val (pe_ok (ok__law_matches T) (hr.mono (by first | decide | omega)) rfl pass0 (pa_cons (pv 3) (pa_cons (pv 8) pa_nil))))) (pss_one (ps_ret pe_bl)) pss_nil)
      (pss_one (ps_expr (pe_bm PySem.F.plainAttrs_list PySem.F.slot_list_append PySem.F.type_list_append mt_append (pv 3) (pa_cons pe_int pa_nil))))))))
      (pss_one (ps_ret pe_bl))))))))), ?_⟩
    obtain ⟨dx, lg, xg, i1, i2, i3⟩ := id hG
    have hxl : xs.length ≤ 120 := by rw [Paired.length h3]; exact hl
    refine ⟨_, rfl, gp, dx, _, rfl, i1, gf_no (by decide +kernel) (by decide +kernel), gp, d, ws, rfl, hG, _, rfl, _, _, rfl, mt_int2 _, fun H1 s1 => ?_⟩
    refine ⟨_, rfl, _, rfl, ?_⟩
    refine ⟨gp, dx, _, rfl, s1 _ _ i1, gf_no (by decide +kernel) (by decide +kernel), gp, d, ws, rfl, hG.same s1, _, rfl, l, xs, rfl, .inl (SqL.of (s1 _ _ h2)), ?_⟩
    rw [Paired.length h3]
    refine ⟨_, _, rfl, mt_int2 _, fun H2 s2 => ⟨_, rfl, _, rfl, ?_⟩⟩
    have e2 := s1.trans s2
    refine ⟨gp, dx, _, rfl, e2 _ _ i1, gf_no (by decide +kernel) (by decide +kernel), gp, d, ws, rfl, hG.same e2, fun m ys H3 hm s3 hM hP => ?_⟩
    have e3 := e2.trans s3
    refine ⟨_, rfl, _, rfl, _, _, rfl, mt_pairs (by omega) hM (e3 _ _ h2) hP (Paired.mapP h3 fun _ _ z => z.same e3), fun H4 s4 => ⟨_, rfl, ?_⟩⟩
    have e4 := e3.trans s4
    have hm4 := s4 _ _ hM
    have hyl : ys.length ≤ 120 := by rw [Paired.length hP]; exact hl
    refine ⟨_, rfl, .inl ⟨rfl, _, SqL.of hm4⟩, (by show 2 ≤ sizeLine; decide), fun t ht => ?_⟩
    obtain ⟨s5, g5⟩ := new2 (.tup [.int 1, .int 1]) ht
    refine ⟨m, ys, _, rfl, rfl, s5 _ _ hm4, line_lt (by omega), ?_⟩
    have e5 : Same H (upd (upd H4 t (.tup [.int 1, .int 1])) m (.lst (ys ++ [V.ref t]))) := same_mut (e4.trans s5) (e2.nn hm)
    generalize upd (upd H4 t (.tup [.int 1, .int 1])) m (.lst (ys ++ [V.ref t])) = H5 at e5 ⊢
    refine ⟨_, rfl, gp, dx, _, rfl, e5 _ _ i1, gf_no (by decide +kernel) (by decide +kernel), gp, d, ws, rfl, hG.same e5, fun m' ys' H6 hm' s6 hM' hP' => ?_⟩
    have e6 := e5.trans s6
    refine ⟨_, rfl, _, _, rfl, mt_pairs (by omega) hM' (e6 _ _ h2) hP' (Paired.mapP h3 fun _ _ z => z.same e6), fun H7 s7 => ⟨_, rfl, ?_⟩⟩
    have e7 := e6.trans s7
    clear s7 s6 hM' hP' hm'
    refine ⟨_, rfl, _, _, rfl, rfl, _, rfl, by omega, by omega, for_upto (lo := 0) (L := (d + 1).toNat) (by omega) (fun i σ H' => ∃ v3 v4 v5 v6 v7 v8, σ = [some (.int d), some (.ref l), some (.ref gp), v3, v4, v5, v6, v7, v8] ∧ Same H H') ⟨_, _, _, _, _, _, rfl, e7⟩ ?_ ?_⟩
    · rintro b σ H' hb ⟨v3, v4, v5, v6, v7, v8, rfl, e⟩
      refine ⟨_, rfl, _, _, rfl, rfl, _, rfl, by omega, by omega, for_upto (lo := 0) (L := b + 1) (by omega) (fun i σ H' => ∃ v3 v5 v6 v7 v8, σ = [some (.int d), some (.ref l), some (.ref gp), v3, some (.int (0 + (b : Int))), v5, v6, v7, v8] ∧ Same H H') ⟨_, _, _, _, _, rfl, e⟩ ?_ ?_⟩
      · rintro a σ H' ha ⟨v3, v5, v6, v7, v8, rfl, e⟩
        have hbs : badS d (0 + (a : Int)) (0 + (b : Int)) = none := by
          unfold badS
          repeat' split
          all_goals first | rfl | omega
        refine ⟨_, rfl, gp, dx, _, rfl, e _ _ i1, gf_no (by decide +kernel) (by decide +kernel), _, rfl, _, rfl, gp, d, ws, _, _, rfl, hG.same e, by omega, (fun x hx => by rw [hbs] at hx; cases hx), fun _ H1 s1 => ?_⟩
        have e1 := e.trans s1
        refine ⟨_, rfl, _, rfl, _, rfl, l, xs, ws, _, _, rfl, e1 _ _ h2, Paired.mapP h3 fun _ _ z => z.same e1, by omega, fun H2 s2 => ?_⟩
        refine ⟨_, _, rfl, mt_int2 _, fun H3 s3 => ⟨_, rfl, ?_⟩⟩
        exact ⟨_, _, _, _, _, rfl, (e1.trans s2).trans s3⟩
      · rintro σ H' ⟨v3, v5, v6, v7, v8, rfl, e⟩
        exact ⟨_, _, _, _, _, _, rfl, e⟩
    · rintro σ H' ⟨v3, v4, v5, v6, v7, v8, rfl, e⟩
      refine ⟨_, rfl, _, _, rfl, rfl, 1, d + 1, rfl, by omega, for_upto (lo := 1) (L := d.toNat) (by omega) (fun i σ H' => ∃ v3 v4 v5 v6 v7 v8, σ = [some (.int d), some (.ref l), some (.ref gp), v3, v4, v5, v6, v7, v8] ∧ Same H H') ⟨_, _, _, _, _, _, rfl, e⟩ ?_ ?_⟩
      · rintro i σ H' hi ⟨v3, v4, v5, v6, v7, v8, rfl, e⟩
        refine ⟨_, rfl, _, _, rfl, .inl (SqL.of (e _ _ h2)), _, rfl, by omega, by omega, fun D hD => lc_upto (lo := 0) (L := ws.length) (by rw [Paired.length h3]; omega) hD (by omega) (fun j acc _ => acc = (opens (1 + (i : Int)) 1 (ws.take j)).map V.int) (fun _ _ => rfl) ?_ ?_⟩
        · rintro j acc H4 N N0 hj s' hacc hI hN hN0
          obtain ⟨c, hc⟩ : ∃ c, ws[j]? = some c := ⟨ws[j], List.getElem?_eq_getElem hj⟩
          obtain ⟨x, hx⟩ : ∃ x, xs[j]? = some x := ⟨xs[j]'(by rw [Paired.length h3]; exact hj), List.getElem?_eq_getElem _⟩
          obtain ⟨c', hc', hr⟩ := paired_get h3 hx
          rw [hc] at hc'
          cases hc'
          have ee := e.trans s'
          have hr := hr.same ee
          have stp := opens_take (d := 1 + (i : Int)) hc
          have z0 : (0 : Int) + (j : Int) + 1 = (j : Int) + 1 := by omega
          refine ⟨rfl, ?_⟩
          refine ⟨_, rfl, _, rfl, l, _, _, _, rfl, rfl, SqL.of (ee _ _ h2), at_of (by omega) hx, hr.i0 ⟨_, rfl, _, _, rfl, rfl, _, rfl, ?_⟩⟩
          cases q1 : decide (c.1 ≤ 1 + (i : Int)) with
          | false => exact ⟨_, rfl, hN0 _ (Same.refl _) (by rw [stp, if_neg (fun z => absurd z.1 (of_decide_eq_false q1)), List.append_nil]; exact hI)⟩
          | true =>
            refine ⟨_, rfl, _, rfl, l, _, _, _, rfl, rfl, SqL.of (ee _ _ h2), at_of (by omega) hx, hr.i1 ⟨_, _, rfl, rfl, _, rfl, ?_⟩⟩
            refine ite2 (fun q2 => ?_) (fun q2 => hN0 _ (Same.refl _) (by rw [stp, if_neg (fun z => q2 (decide_eq_true z.2)), List.append_nil]; exact hI))
            refine ⟨_, rfl, _, _, rfl, rfl, hN _ _ (Same.refl _) fun _ _ _ => ?_⟩
            rw [stp, if_pos ⟨of_decide_eq_true q1, of_decide_eq_true q2⟩, List.map_append, hI]
            show _ ++ [V.int (0 + (j : Int) + 1)] = _
            rw [z0]
            rfl
        · rintro acc H4 s' hacc _ hI
          rw [List.take_length] at hI
          subst hI
          have ee := e.trans s'
          have hol := opens_len (1 + (i : Int)) ws 1
          refine ⟨_, rfl, gp, dx, _, rfl, ee _ _ i1, gf_no (by decide +kernel) (by decide +kernel), _, rfl, gp, d, ws, _, rfl, hG.same ee, by omega, (fun z => absurd ⟨by omega, by omega⟩ z), fun _ _ lo H5 hlo s5 hLo => ?_⟩
          refine ⟨_, rfl, _, rfl, _, _, rfl, mt_ints2 (by omega) hLo (s5 _ _ hacc), fun H6 s6 => ⟨_, rfl, ?_⟩⟩
          refine ⟨_, rfl, .inl ⟨rfl, _, SqL.of (s6 _ _ hLo)⟩, lo, _, _, rfl, rfl, s6 _ _ hLo, (by rw [ints_len]; exact line_lt (by omega)), ?_⟩
          exact ⟨_, _, _, _, _, _, rfl, same_mut ((ee.trans s5).trans s6) (ee.nn hlo)⟩
      · rintro σ H' ⟨v3, v4, v5, v6, v7, v8, rfl, e⟩
        exact k _ e
end
end K04
end
section
set_option maxRecDepth 100000
set_option maxHeartbeats 4000000
namespace K04
open PySem PySem.Spec PyProof.Rows L2
theorem GardenAt.but {K : PySem.W.Frag} {H H' : Hp} {sa p : Addr} {d : Int} {ws : List (Int × Int)} (hst : Stk H sa) (b : But sa H H') (h : GardenAt K H p d ws) : GardenAt K H' p d ws := by
  obtain ⟨dx, l, xs, h1, h2, h3⟩ := h
  have n1 : p ≠ sa := fun z => by
    obtain ⟨x, y, t, e⟩ := hst
    rw [← z, h1] at e
    cases e
  have n2 : l ≠ sa := fun z => by
    obtain ⟨x, y, t, e⟩ := hst
    rw [← z, h2] at e
    cases e
    cases h3 with
    | cons r _ =>
      obtain ⟨q, e, _⟩ := r
      cases e
  exact ⟨dx, l, xs, b _ _ h1 n1, b _ _ h2 n2, Paired.mapP h3 fun _ _ z => z.bx hst (Bx.of_but b)⟩
theorem served_len (cs : List T3) (k : Nat) : (served cs k).length ≤ cs.length := by
  unfold served srtI srt3
  rw [List.length_mergeSort, List.length_map, List.length_take, List.length_mergeSort]
  omega
theorem dI_ok {ps : List (Int × Int)} (h : ps.Pairwise (fun a b => a.1 < b.1)) : ∀ kv ∈ dI ps, ∃ n, valV (dI ps) kv.1 = some (V.int n) := by
  intro kv hkv
  obtain ⟨c, hc, rfl⟩ := List.mem_map.mp hkv
  exact ⟨_, dI_some h c hc⟩
section
variable {P : Program} {w : World} {K : PySem.W.Frag} {mg : Str → Option Value} {base : Heap}
def spServing (K : PySem.W.Frag) : Sp := fun vs H Q _ => ∃ sa d l xs ws gp, vs = [.ref sa, .int d, .ref l, .ref gp] ∧ H l = some (.lst xs) ∧ Paired (PairT H) xs ws ∧ GardenAt K H gp d ws ∧ 1 ≤ d ∧ d ≤ 24 ∧ ws.length ≤ 120 ∧ (∀ c ∈ ws, VW d c) ∧ l ≠ sa ∧ Stk H sa ∧ ∀ H', But sa H H' → Stk H' sa → Q (.bl true) H'
theorem ok__law_k04_serving (T : Txt w K mg) : Ok P w K mg base CX0 8 "_law_k04_serving" ["stock", "days", "windows", "garden"] (spServing K) := by
  refine Ok.def0 (f__law_k04_serving T) (fun _ _ _ _ _ _ us hl => match us, hl with | [_, _, _, _], _ => rfl) sc__law_k04_serving (fun vs H Q E h => ?_) (fun f cdv A outer s H vs Q E hr h => ?_)
  · obtain ⟨sa, d, l, xs, ws, gp, rfl, _⟩ := h
    rfl
  · obtain ⟨sa, d, l, xs, ws, gp, rfl, h2, h3, hG, d1, d2, hl, hV, hne, hst0, k⟩ := h
    have ok__law_matches := fun (T : Txt w K mg) => ok_mt2 (P := P) (base := base) T
    refine ⟨_, (pss_cons (ps_for PassesOwn.never rfl (pi_range2 rfl (n_range T) (pa_cons pe_int (pa_cons (pe_op op_add (pv 1) pe_int) pa_nil))) (pg_name (i := 4) sc__law_k04_serving.nd rfl (by first | exact Or.inl rfl | exact Or.inr rfl))
        (pss_cons (ps_set (i := 5) sc__law_k04_serving.nd rfl (by first | exact Or.inl rfl | exact Or.inr rfl) (pe_ok (ok__law_k04_wet T) (hr.mono (by first | decide | omega)) rfl pass0 (pa_cons (pv 0) (pa_cons (pv 2) (pa_cons (pv 4) pa_nil)))))
      (pss_cons (ps_set (i := 6) sc__law_k04_serving.nd rfl (by first | exact Or.inl rfl | exact Or.inr rfl) pe_dnewK)
      (pss_cons (ps_for PassesOwn.never rfl (pi_listK (K := K) rfl (pe_callTy (call_list_dK rfl) rfl (n_list T) (by decide +kernel) (pa_cons (pv 5) pa_nil))) (pg_name (i := 7) sc__law_k04_serving.nd rfl (by first | exact Or.inl rfl | exact Or.inr rfl))
        (pss_one (ps_asg (pe_dget (du hr.units) (pv 5) (pv 7) (fun _ _ => rfl)) (pg_sub (pv 6) (pv 7) (set_dict (du hr.units))))))
      (pss_cons (ps_set (i := 8) sc__law_k04_serving.nd rfl (by first | exact Or.inl rfl | exact Or.inr rfl) (pe_callB (len_seqK (K := K) rfl) rfl (n_len T) (by decide +kernel) (pa_cons (pe_ok (ok__law_k04_served T) (hr.mono (by first | decide | omega)) rfl pass0 (pa_cons (pv 2) (pa_cons (pv 5) (pa_cons (pv 4) (pa_cons (pe_callB (len_seqK (K := K) rfl) rfl (n_len T) (by decide +kernel) (pa_cons (pv 2) pa_nil)) pa_nil))))) pa_nil)))
      (pss_cons (ps_for PassesOwn.never rfl (pi_listK (K := K) rfl (pe_lst (pa_cons pe_int (pa_cons pe_int (pa_cons (pe_op op_fdivN (pv 8) pe_int) (pa_cons (pe_callB (call_max2 rfl) rfl (n_max T) (by decide +kernel) (pa_cons pe_int (pa_cons (pe_op op_sub (pv 8) pe_int) pa_nil))) (pa_cons (pv 8) (pa_cons (pe_op op_add (pe_callB (len_seqK (K := K) rfl) rfl (n_len T) (by decide +kernel) (pa_cons (pv 2) pa_nil)) (pe_ok (ok__law_draw T) (hr.mono (by first | decide | omega)) rfl pass0 (pa_cons (pv 0) (pa_cons pe_int pa_nil)))) pa_nil)))))))) (pg_name (i := 9) sc__law_k04_serving.nd rfl (by first | exact Or.inl rfl | exact Or.inr rfl))
        (pss_cons (ps_set (i := 10) sc__law_k04_serving.nd rfl (by first | exact Or.inl rfl | exact Or.inr rfl) (pe_ok (ok__law_k04_served T) (hr.mono (by first | decide | omega)) rfl pass0 (pa_cons (pv 2) (pa_cons (pv 5) (pa_cons (pv 4) (pa_cons (pv 9) pa_nil))))))
      (pss_cons (ps_set (i := 11) sc__law_k04_serving.nd rfl (by first | exact Or.inl rfl | exact Or.inr rfl) (pe_okM (okm_Garden_serve T) (cl_Garden T) (pv 3) (hr.mono (by first | decide | omega)) passL (pa_cons (pv 6) (pa_cons (pv 4) (pa_cons (pv 9) pa_nil)))))
      (pss_cons (ps_if (PW.pt (pw_or (pt_not (pt_val (pe_ok (ok__law_matches T) (hr.mono (by first | decide | omega)) rfl pass0 (pa_cons (pv 11) (pa_cons (pv 10) pa_nil))))) (pw_or1 (pt_not (pt_val (pe_ok (ok_mtD T) (hr.mono (by first | decide | omega)) rfl pass0 (pa_cons (pv 6) (pa_cons (pv 5) pa_nil)))))))) (pss_one (ps_ret pe_bl)) pss_nil)
      (pss_cons (ps_expr (pe_bm PySem.F.plainAttrs_list PySem.F.slot_list_append PySem.F.type_list_append mt_append (pv 11) (pa_cons pe_int pa_nil)))
      (pss_one (ps_if (pt_not (pt_val (pe_ok (ok__law_matches T) (hr.mono (by first | decide | omega)) rfl pass0 (pa_cons (pe_okM (okm_Garden_serve T) (cl_Garden T) (pv 3) (hr.mono (by first | decide | omega)) passL (pa_cons (pv 6) (pa_cons (pv 4) (pa_cons (pv 9) pa_nil)))) (pa_cons (pv 10) pa_nil))))) (pss_one (ps_ret pe_bl)) pss_nil)))))))
      (pss_one (ps_if (pt_not (pt_val (pe_ok (ok__law_matches T) (hr.mono (by first | decide | omega)) rfl pass0 (pa_cons (pe_okM (okm_Garden_serve T) (cl_Garden T) (pv 3) (hr.mono (by first | decide | omega)) passL (pa_cons pe_dnewK (pa_cons (pv 4) (pa_cons pe_int pa_nil)))) (pa_cons (pe_ok (ok__law_k04_served T) (hr.mono (by first | decide | omega)) rfl pass0 (pa_cons (pv 2) (pa_cons pe_dnewK (pa_cons (pv 4) (pa_cons pe_int pa_nil))))) pa_nil))))) (pss_one (ps_ret pe_bl)) pss_nil))))))))
      (pss_one (ps_ret pe_bl))), ?_⟩
    have hxl : xs.length ≤ 120 := by rw [Paired.length h3]; exact hl
    have hV24 : ∀ c ∈ ws, VW 24 c := fun c hc => by
      have := hV c hc
      unfold VW at this ⊢
      omega
    refine ⟨_, rfl, _, _, rfl, rfl, 1, d + 1, rfl, by omega, for_upto (lo := 1) (L := d.toNat) (by omega) (fun i σ H' => ∃ v4 v5 v6 v7 v8 v9 v10 v11, σ = [some (.ref sa), some (.int d), some (.ref l), some (.ref gp), v4, v5, v6, v7, v8, v9, v10, v11] ∧ But sa H H' ∧ Stk H' sa) ⟨_, _, _, _, _, _, _, _, rfl, But.refl sa H, hst0⟩ ?_ ?_⟩
    · rintro i σ H' hi ⟨v4, v5, v6, v7, v8, v9, v10, v11, rfl, b, hst⟩
      have hl1 := b _ _ h2 hne
      have hp1 := Paired.mapP h3 fun _ _ z => z.bx hst0 (Bx.of_but b)
      refine ⟨_, rfl, _, rfl, _, rfl, sa, l, xs, ws, _, rfl, hl1, hp1, by omega, hV24, hne, by omega, hst, fun wa ps H1 b1 hst1 hwa hW hpl hpw => ?_⟩
      have b2 := b.trans b1
      intro hn hhn
      obtain ⟨s2, g2⟩ := new2 (.dK []) hhn
      refine ⟨_, rfl, wa, dI ps, rfl, s2 _ _ hW, fun q hq => ?_⟩
      obtain ⟨s3, g3⟩ := new2 (.lst ((dI ps).map fun kv => kV kv.1)) hq
      have s23 := s2.trans s3
      refine ⟨q, rfl, ⟨_, SqL.of g3⟩, for_list (K := K) (a := q) (xs := (dI ps).map fun kv => kV kv.1) (fun j σ H' => ∃ v7, σ = [some (.ref sa), some (.int d), some (.ref l), some (.ref gp), some (.int (1 + (i : Int))), some (.ref wa), some (.ref hn), v7, v8, v9, v10, v11] ∧ Same H1 H' ∧ H' hn = some (.dK (dI (ps.take j))) ∧ H' q = some (.lst ((dI ps).map fun kv => kV kv.1))) ⟨_, rfl, s23, s3 _ _ g2, g3⟩ (fun _ _ _ _ ⟨_, _, _, _, z⟩ => SqL.of z) ?_ ?_⟩
      · rintro j x σ H' hx ⟨v7, rfl, s5, hH, hq5⟩
        unfold dI at hx
        rw [List.map_map, List.getElem?_map] at hx
        obtain ⟨c, hc, rfl⟩ := Option.map_eq_some_iff.mp hx
        have gw := DGet.k (k := .inl c.1) (s5 _ _ hW)
        rw [dI_some hpw c (List.mem_of_getElem? hc)] at gw
        have hlt : ∀ a ∈ ps.take j, a.1 < c.1 := fun a ha => by
          have z := take_get hc
          have pw : (ps.take (j + 1)).Pairwise (fun a b => a.1 < b.1) := hpw.sublist (List.take_sublist _ _)
          rw [z, List.pairwise_append] at pw
          exact pw.2.2 a ha c (List.mem_singleton.mpr rfl)
        refine ⟨_, rfl, _, rfl, wa, _, rfl, gw, _, rfl, _, rfl, hn, _, rfl, DPut.k (k := .inl c.1) hH (by unfold dI; rw [List.length_map, List.length_take]; exact line_lt (by omega)), ?_⟩
        rw [dI_put hlt, ← take_get hc]
        refine ⟨_, rfl, same_mut s5 hhn, upd_same, ?_⟩
        rw [upd_ne (fun z => by rw [z, hH] at hq5; cases hq5)]
        exact hq5
      · rintro σ H3 ⟨v7, rfl, s5, hH, _⟩
        have hpsl : (dI ps).map (fun kv => kV kv.1) = (dI ps).map (fun kv => kV kv.1) := rfl
        have hjl : ps.take ((dI ps).map fun kv => kV kv.1).length = ps := by unfold dI; rw [List.length_map, List.length_map, List.take_length]
        rw [hjl] at hH
        have b3 : But sa H H3 := b2.trans (But.of s5)
        have hst3 := hst1.same s5
        have hl3 := b3 _ _ h2 hne
        have hp3 := Paired.mapP h3 fun _ _ z => z.bx hst0 (Bx.of_but b3)
        have hG3 := hG.but hst0 b3
        have hW3 := s5 _ _ hW
        refine ⟨_, rfl, _, rfl, _, rfl, _, rfl, _, _, rfl, .inl (SqL.of hl3), l, xs, ws, wa, dI ps, _, _, rfl, hl3, hp3, by omega, hV24, hW3, by omega, fun r H4 hr4 s4 hR => ?_⟩
        refine ⟨_, _, rfl, .inl (SqL.of hR), ?_⟩
        rw [ints_len]
        generalize hrd : (served (orderOf (dI ps) (1 + (i : Int)) 1 ws) ((xs.length : Int)).toNat).length = rd
        have b4 := b3.trans (But.of s4)
        have hst4 := hst3.same s4
        have hl4 := b4 _ _ h2 hne
        refine ⟨_, rfl, _, _, rfl, rfl, ⟨by decide, by decide⟩, _, rfl, _, _, rfl, rfl, _, _, rfl, _, rfl, _, rfl, _, _, rfl, .inl (SqL.of hl4), _, rfl, sa, 3, rfl, by decide, by decide, hst4, fun kd x y z r0 r1 => ⟨_, _, rfl, rfl, (by show 6 ≤ sizeLine; decide), fun ll hll => ?_⟩⟩
        have hdv : 0 ≤ (rd : Int).fdiv 2 := Int.fdiv_nonneg (by omega) (by omega)
        have hdl : (dI ps).length ≤ 1000 := by unfold dI; rw [List.length_map]; omega
        have hdI : ∀ kv ∈ dI ps, ∃ n, valV (dI ps) kv.1 = some (V.int n) := dI_ok hpw
        obtain ⟨cans, hcans, hpos⟩ : ∃ cans : List Int, ([V.int 0, V.int 1, V.int ((rd : Int).fdiv 2), V.int (if (rd : Int) - 1 > 0 then (rd : Int) - 1 else 0), V.int (rd : Int), V.int ((xs.length : Int) + kd)] : List V) = cans.map V.int ∧ ∀ z ∈ cans, 0 ≤ z := by
          refine ⟨[0, 1, (rd : Int).fdiv 2, (if (rd : Int) - 1 > 0 then (rd : Int) - 1 else 0), (rd : Int), (xs.length : Int) + kd], rfl, fun z hz => ?_⟩
          simp only [List.mem_cons, List.not_mem_nil, or_false] at hz
          rcases hz with rfl | rfl | rfl | rfl | rfl | rfl
          · omega
          · omega
          · exact hdv
          · split <;> omega
          · omega
          · omega
        have b5 : But sa H (upd H4 sa (stk x y z)) := b4.upd
        have hst5 : Stk (upd H4 sa (stk x y z)) sa := stk_upd
        have b45 : But sa H4 (upd H4 sa (stk x y z)) := (But.refl sa H4).upd
        have hhn3 : hn ≠ sa := fun z => by rw [z] at hhn; exact hst1.ne hhn
        have hwa3 : wa ≠ sa := fun z => by rw [z] at hwa; exact hst.ne hwa
        have hW5 := b45 _ _ (s4 _ _ hW3) hwa3
        have hH5 := b45 _ _ (s4 _ _ hH) hhn3
        generalize upd H4 sa (stk x y z) = H5 at hll b5 hst5 b45 hW5 hH5 ⊢
        show (fun x H1 => _) (V.ref ll) (upd H5 ll (HO.lst [V.int 0, V.int 1, V.int ((rd : Int).fdiv 2), V.int (if (rd : Int) - 1 > 0 then (rd : Int) - 1 else 0), V.int (rd : Int), V.int ((xs.length : Int) + kd)]))
        rw [hcans]
        obtain ⟨s6, g6⟩ := new2 (.lst (cans.map V.int)) hll
        generalize upd H5 ll (.lst (cans.map V.int)) = H6 at s6 g6 ⊢
        have b6 := b5.trans (But.of s6)
        have hst6 := hst5.same s6
        refine ⟨ll, rfl, ⟨_, SqL.of g6⟩, for_list (K := K) (a := ll) (xs := cans.map V.int) (fun j σ H' => ∃ v9 v10 v11, σ = [some (.ref sa), some (.int d), some (.ref l), some (.ref gp), some (.int (1 + (i : Int))), some (.ref wa), some (.ref hn), v7, some (.int (rd : Int)), v9, v10, v11] ∧ Same H6 H') ⟨_, _, _, rfl, Same.refl _⟩ (fun _ _ _ _ ⟨_, _, _, _, z⟩ => SqL.of (z _ _ g6)) ?_ ?_⟩
        · rintro j x σ H' hx ⟨v9, v10, v11, rfl, e⟩
          obtain ⟨cn, hcn, rfl⟩ := ints_get hx
          have hc0 : 0 ≤ cn := hpos cn (List.mem_of_getElem? hcn)
          have b7 := b6.trans (But.of e)
          have hl7 := b7 _ _ h2 hne
          have hp7 := Paired.mapP h3 fun _ _ z => z.bx hst0 (Bx.of_but b7)
          have hG7 := hG.but hst0 b7
          have hW7 := e _ _ (s6 _ _ hW5)
          have hH7 := e _ _ (s6 _ _ hH5)
          obtain ⟨dx, lg, xg, i1, i2, i3⟩ := id hG7
          refine ⟨_, rfl, _, rfl, _, rfl, _, rfl, l, xs, ws, wa, dI ps, _, _, rfl, hl7, hp7, by omega, hV24, hW7, hc0, fun du_ H8 hd8 s8 hD => ?_⟩
          refine ⟨_, rfl, gp, dx, _, rfl, s8 _ _ i1, gf_no (by decide +kernel) (by decide +kernel), _, rfl, _, rfl, _, rfl, gp, d, ws, _, hn, dI ps, _, rfl, hG7.same s8, by omega, hV24, s8 _ _ hH7, fun z => absurd (show 1 ≤ 1 + (i : Int) ∧ 1 + (i : Int) ≤ d by omega) z, fun _ _ to H9 ht9 s9 hT9 => ?_⟩
          have b9 := b7.trans (But.of (s8.trans s9))
          have hlen : (served (orderOf (dI ps) (1 + (i : Int)) 1 ws) cn.toNat).length ≤ 1000 := by
            have := served_len (orderOf (dI ps) (1 + (i : Int)) 1 ws) cn.toNat
            have := order_len (dI ps) (1 + (i : Int)) ws 1
            omega
          have hD9 := s9 _ _ hD
          refine ⟨_, rfl, _, rfl, _, _, rfl, mt_ints2 hlen hT9 hD9, fun H10 s10 => ⟨_, rfl, ?_⟩⟩
          have s79 := (s8.trans s9).trans s10
          refine ⟨_, rfl, _, rfl, hn, wa, dI ps, rfl, s79 _ _ hH7, s79 _ _ hW7, hdl, hdI, fun H11 s11 => ⟨_, rfl, ?_⟩⟩
          have e11 := (s10.trans s11) _ _ hT9
          refine ⟨_, rfl, .inl ⟨rfl, _, SqL.of e11⟩, to, _, _, rfl, rfl, e11, line_lt (by rw [ints_len]; omega), ?_⟩
          have s711 := s79.trans s11
          have m12 := same_mut (o := .lst ((served (orderOf (dI ps) (1 + (i : Int)) 1 ws) cn.toNat).map V.int ++ [V.int 0])) s711 (s8.nn ht9)
          have hD12 : upd H11 to (.lst ((served (orderOf (dI ps) (1 + (i : Int)) 1 ws) cn.toNat).map V.int ++ [V.int 0])) du_ = some (.lst ((served (orderOf (dI ps) (1 + (i : Int)) 1 ws) cn.toNat).map V.int)) := by
            rw [upd_ne (fun z => by rw [z] at hD; rw [ht9] at hD; cases hD)]
            exact (s10.trans s11) _ _ hD9
          generalize upd H11 to (.lst ((served (orderOf (dI ps) (1 + (i : Int)) 1 ws) cn.toNat).map V.int ++ [V.int 0])) = H12 at m12 hD12 ⊢
          refine ⟨_, rfl, gp, dx, _, rfl, m12 _ _ i1, gf_no (by decide +kernel) (by decide +kernel), _, rfl, _, rfl, _, rfl, gp, d, ws, _, hn, dI ps, _, rfl, hG7.same m12, by omega, hV24, m12 _ _ hH7, fun z => absurd (show 1 ≤ 1 + (i : Int) ∧ 1 + (i : Int) ≤ d by omega) z, fun _ _ tp H13 ht13 s13 hT13 => ?_⟩
          refine ⟨_, rfl, _, _, rfl, mt_ints2 hlen hT13 (s13 _ _ hD12), fun H14 s14 => ⟨_, rfl, ?_⟩⟩
          exact ⟨_, _, _, rfl, e.trans ((m12.trans s13).trans s14)⟩
        · rintro σ H' ⟨v9, v10, v11, rfl, e⟩
          have b7 := b6.trans (But.of e)
          have hl7 := b7 _ _ h2 hne
          have hp7 := Paired.mapP h3 fun _ _ z => z.bx hst0 (Bx.of_but b7)
          have hG7 := hG.but hst0 b7
          obtain ⟨dx, lg, xg, i1, i2, i3⟩ := id hG7
          have hst7 := hst6.same e
          refine ⟨_, rfl, gp, dx, _, rfl, i1, gf_no (by decide +kernel) (by decide +kernel), fun w1 hw1 => ?_⟩
          obtain ⟨s8, g8⟩ := new2 (.dK []) hw1
          refine ⟨_, rfl, gp, d, ws, _, w1, dI [], _, rfl, hG7.same s8, by omega, hV24, g8, fun z => absurd (show 1 ≤ 1 + (i : Int) ∧ 1 + (i : Int) ≤ d by omega) z, fun _ _ to H9 ht9 s9 hT9 => ?_⟩
          refine ⟨_, rfl, fun w2 hw2 => ?_⟩
          obtain ⟨s10, g10⟩ := new2 (.dK []) hw2
          have s810 := (s8.trans s9).trans s10
          refine ⟨_, rfl, l, xs, ws, w2, dI [], _, _, rfl, s810 _ _ hl7, Paired.mapP hp7 fun _ _ z => z.same s810, by omega, hV24, g10, by decide, fun du_ H11 hd11 s11 hD => ?_⟩
          have hlen : (served (orderOf (dI []) (1 + (i : Int)) 1 ws) (1 : Int).toNat).length ≤ 1000 := by
            have := served_len (orderOf (dI []) (1 + (i : Int)) 1 ws) (1 : Int).toNat
            have := order_len (dI []) (1 + (i : Int)) ws 1
            omega
          refine ⟨_, _, rfl, mt_ints2 hlen (s11 _ _ (s10 _ _ hT9)) hD, fun H12 s12 => ⟨_, rfl, ?_⟩⟩
          have s712 := (s810.trans s11).trans s12
          exact ⟨_, _, _, _, _, _, _, _, rfl, b7.trans (But.of s712), hst7.same s712⟩
    · rintro σ H' ⟨v4, v5, v6, v7, v8, v9, v10, v11, rfl, b, hst⟩
      exact k _ b hst
end
end K04
end
section
set_option maxRecDepth 100000
set_option maxHeartbeats 4000000
namespace L2
open PySem PySem.Spec PyProof.Rows
/-! ### lists of couples compared -/
def dP (c : Int × Int) : PyData := .tuple [.int c.1, .int c.2]
theorem dp_pair {K : PySem.W.Frag} {H : Hp} {x : V} {c : Int × Int} (h : PairT H x c) : Dp K H x (dP c) := by
  obtain ⟨t, rfl, h⟩ := h
  exact .tup (SqT.of h) (.cons (.int _) (.cons (.int _) .nil))
theorem dp_pairall {K : PySem.W.Frag} {H : Hp} {xs : List V} {ws : List (Int × Int)} (h : Paired (PairT H) xs ws) : DpAll K H xs (ws.map dP) := by
  induction h with
  | nil => exact .nil
  | cons a _ ih => exact .cons (dp_pair a) ih
theorem dp_pairs {K : PySem.W.Frag} {H : Hp} {a : Addr} {xs : List V} {ws : List (Int × Int)} (ha : H a = some (.lst xs)) (h : Paired (PairT H) xs ws) : Dp K H (.ref a) (.list (ws.map dP)) := .lst (SqL.of ha) (dp_pairall h)
theorem lay_pairall : ∀ ws : List (Int × Int), PyData.canLayAll0 (ws.map dP) = true
  | [] => by rw [List.map_nil]; unfold PyData.canLayAll0; rfl
  | c :: r => by
    rw [List.map_cons]
    unfold PyData.canLayAll0
    rw [lay_pairall r]
    unfold dP PyData.canLay0 PyData.canLayAll0 PyData.canLay0 PyData.canLayAll0 PyData.canLay0 PyData.canLayAll0
    rfl
theorem lay_pairs (ws : List (Int × Int)) : (PyData.list (ws.map dP)).canLay0 = true := by
  unfold PyData.canLay0
  exact lay_pairall ws
theorem dep_pairall : ∀ ws : List (Int × Int), PyData.depthAll (ws.map dP) ≤ 2
  | [] => by rw [List.map_nil]; unfold PyData.depthAll; exact Nat.zero_le _
  | c :: r => by
    rw [List.map_cons]
    unfold PyData.depthAll
    have h := dep_pairall r
    have e : (dP c).depth ≤ 2 := by
      unfold dP PyData.depth PyData.depthAll PyData.depth PyData.depthAll PyData.depth PyData.depthAll
      decide
    omega
theorem shaped_pairs (ws : List (Int × Int)) : SeqAt.shaped (PyData.list (ws.map dP)) = true := by
  unfold SeqAt.shaped
  rw [lay_pairs]
  have h := dep_pairall ws
  have e : (PyData.list (ws.map dP)).depth ≤ 64 := by
    unfold PyData.depth
    omega
  rw [decide_eq_true e]
  rfl
theorem ne_pairs {K : PySem.W.Frag} {H : Hp} {a b : Addr} {xs ys : List V} {ws : List (Int × Int)} {Q : VK} (ha : H a = some (.lst xs)) (hb : H b = some (.lst ys)) (h1 : Paired (PairT H) xs ws) (h2 : Paired (PairT H) ys ws) (q : Q (.bl false) H) : rNeD K (.ref a) (.ref b) H Q := by
  refine ⟨_, _, dp_pairs ha h1, dp_pairs hb h2, shaped_pairs ws, shaped_pairs ws, ?_⟩
  rw [SeqAt.eqv_refl _ (lay_pairs ws)]
  exact q
end L2
end
section
set_option maxRecDepth 100000
set_option maxHeartbeats 4000000
namespace K04
open PySem PySem.Spec PyProof.Rows L2
section
variable {P : Program} {w : World} {K : PySem.W.Frag} {mg : Str → Option Value} {base : Heap}
def spChanged (K : PySem.W.Frag) : Sp := fun vs H Q _ => ∃ d l xs ws gp m ys ms, vs = [.int d, .ref l, .ref gp, .ref m] ∧ H l = some (.lst xs) ∧ Paired (PairT H) xs ws ∧ GardenAt K H gp d ws ∧ 1 ≤ d ∧ d ≤ 24 ∧ (ws ++ ms).length ≤ 120 ∧ (∀ c ∈ ws ++ ms, VW d c) ∧ H m = some (.lst ys) ∧ Paired (PairT H) ys ms ∧ ∀ H', Same H H' → Q (.bl true) H'
theorem ok__law_k04_changed (T : Txt w K mg) : Ok P w K mg base CX0 9 "_law_k04_changed" ["days", "windows", "garden", "more"] (spChanged K) := by
  refine Ok.def0 (f__law_k04_changed T) (fun _ _ _ _ _ _ us hl => match us, hl with | [_, _, _, _], _ => rfl) sc__law_k04_changed (fun vs H Q E h => ?_) (fun f cdv A outer s H vs Q E hr h => ?_)
  · obtain ⟨d, l, xs, ws, gp, m, ys, ms, rfl, _⟩ := h
    rfl
  · obtain ⟨d, l, xs, ws, gp, m, ys, ms, rfl, h2, h3, hG, d1, d2, hl, hV, hm, hM, k⟩ := h
    have ok__law_matches := fun (T : Txt w K mg) => ok_mt2 (P := P) (base := base) T
    refine ⟨_, (pss_cons (ps_for PassesOwn.never rfl (pi_range2 rfl (n_range T) (pa_cons pe_int (pa_cons (pe_op op_add (pv 0) pe_int) pa_nil))) (pg_name (i := 4) sc__law_k04_changed.nd rfl (by first | exact Or.inl rfl | exact Or.inr rfl))
        (pss_cons (ps_setLc (i := 6) (own := [("window", 5)]) rfl sc__law_k04_changed.nd rfl rfl (sw_true rfl rfl rfl (by decide +kernel)) (pi_listK (K := K) rfl (pv 1)) (blkOk_by (N := ["days", "windows", "garden", "more", "day", "window", "kept", "made", "handed", "wider"]) (sc := defScope s__law_k04_changed) (by decide +kernel)) (fun _ _ _ _ _ => (pg_name (i := 5) sc__law_k04_changed.nd rfl (by first | exact Or.inl rfl | exact Or.inr rfl))) (fun _ _ _ _ _ => pts_one (pt_cmpR op_le (pe_ix (ix_seqK (K := K) rfl) (pv 5) pe_int (fun _ _ => rfl)) (pv 4) (nomark _))) (fun _ _ _ _ _ => (pv 5)))
      (pss_cons (ps_set (i := 7) sc__law_k04_changed.nd rfl (by first | exact Or.inl rfl | exact Or.inr rfl) (pe_okM (okm_Garden_cut T) (cl_Garden T) (pv 2) (hr.mono (by first | decide | omega)) passL (pa_cons (pv 4) pa_nil)))
      (pss_cons (ps_if (PW.pt (pw_or (pt_not (pt_val (pe_ok (ok__law_matches T) (hr.mono (by first | decide | omega)) rfl pass0 (pa_cons (pe_okM0 (okm_Garden_rows T) (cl_Garden T) (pv 7) (hr.mono (by first | decide | omega)) pass0) (pa_cons (pv 6) pa_nil))))) (pw_or1 (pt_not (pt_val (pe_ok (ok__law_matches T) (hr.mono (by first | decide | omega)) rfl pass0 (pa_cons (pe_okM0 (okm_Garden_days T) (cl_Garden T) (pv 7) (hr.mono (by first | decide | omega)) pass0) (pa_cons (pv 4) pa_nil)))))))) (pss_one (ps_ret pe_bl)) pss_nil)
      (pss_one (ps_if (PW.pt (pw_or (pt_not (pt_val (pe_ok (ok__law_matches T) (hr.mono (by first | decide | omega)) rfl pass0 (pa_cons (pe_okM (okm_Garden_inside T) (cl_Garden T) (pv 7) (hr.mono (by first | decide | omega)) passL (pa_cons pe_int (pa_cons (pv 4) pa_nil))) (pa_cons (pe_callB (len_seqK (K := K) rfl) rfl (n_len T) (by decide +kernel) (pa_cons (pv 6) pa_nil)) pa_nil))))) (pw_or1 (pt_not (pt_val (pe_ok (ok__law_matches T) (hr.mono (by first | decide | omega)) rfl pass0 (pa_cons (pe_okM0 (okm_Garden_many T) (cl_Garden T) (pv 7) (hr.mono (by first | decide | omega)) pass0) (pa_cons (pe_callB (len_seqK (K := K) rfl) rfl (n_len T) (by decide +kernel) (pa_cons (pv 6) pa_nil)) pa_nil)))))))) (pss_one (ps_ret pe_bl)) pss_nil))))))
      (pss_cons (ps_set (i := 8) sc__law_k04_changed.nd rfl (by first | exact Or.inl rfl | exact Or.inr rfl) (pe_callTy (list_ofK (K := K) rfl) rfl (n_list T) (by decide +kernel) (pa_cons (pv 3) pa_nil)))
      (pss_cons (ps_set (i := 9) sc__law_k04_changed.nd rfl (by first | exact Or.inl rfl | exact Or.inr rfl) (pe_okM (okm_Garden_with_seeds T) (cl_Garden T) (pv 2) (hr.mono (by first | decide | omega)) passL (pa_cons (pv 8) pa_nil)))
      (pss_cons (ps_if (PW.pt (pw_or (pt_cmpR (neDK (K := K) rfl hr.units) (pv 8) (pv 3) (nomark _)) (pw_or1 (pt_not (pt_val (pe_ok (ok__law_k04_counts T) (hr.mono (by first | decide | omega)) rfl pass0 (pa_cons (pv 0) (pa_cons (pe_op op_cat (pv 1) (pv 3)) (pa_cons (pv 9) pa_nil))))))))) (pss_one (ps_ret pe_bl)) pss_nil)
      (pss_cons (ps_expr (pe_bm PySem.F.plainAttrs_list PySem.F.slot_list_append PySem.F.type_list_append mt_append (pv 8) (pa_cons (pe_tup (pa_cons pe_int (pa_cons pe_int pa_nil))) pa_nil)))
      (pss_one (ps_ret (pe_and (pe_ok (ok__law_matches T) (hr.mono (by first | decide | omega)) rfl pass0 (pa_cons (pe_okM0 (okm_Garden_rows T) (cl_Garden T) (pv 9) (hr.mono (by first | decide | omega)) pass0) (pa_cons (pe_op op_cat (pv 1) (pv 3)) pa_nil))) (pe_one (pe_ok (ok__law_matches T) (hr.mono (by first | decide | omega)) rfl pass0 (pa_cons (pe_okM0 (okm_Garden_rows T) (cl_Garden T) (pv 2) (hr.mono (by first | decide | omega)) pass0) (pa_cons (pv 1) pa_nil)))))))))))), ?_⟩
    obtain ⟨dx, lg, xg, i1, i2, i3⟩ := id hG
    have hlw : ws.length ≤ 120 := by rw [List.length_append] at hl; omega
    have hlm : ms.length ≤ 120 := by rw [List.length_append] at hl; omega
    have hxl : xs.length ≤ 120 := by rw [Paired.length h3]; exact hlw
    have hyl : ys.length ≤ 120 := by rw [Paired.length hM]; exact hlm
    have hVw : ∀ c ∈ ws, VW d c := fun c hc => hV c (List.mem_append_left _ hc)
    refine ⟨_, rfl, _, _, rfl, rfl, 1, d + 1, rfl, by omega, for_upto (lo := 1) (L := d.toNat) (by omega) (fun i σ H' => ∃ v4 v5 v6 v7 v8 v9, σ = [some (.int d), some (.ref l), some (.ref gp), some (.ref m), v4, v5, v6, v7, v8, v9] ∧ Same H H') ⟨_, _, _, _, _, _, rfl, Same.refl H⟩ ?_ ?_⟩
    · rintro i σ H' hi ⟨v4, v5, v6, v7, v8, v9, rfl, e⟩
      refine ⟨_, rfl, l, rfl, ⟨_, SqL.of (e _ _ h2)⟩, fun D hD => lc_acc (K := K) (a := l) (xs := xs) hD (SqL.of (e _ _ h2)) (by omega) (fun j acc H2 => Paired (PairT H2) acc ((ws.take j).filter fun c => decide (c.2 ≤ 1 + (i : Int)))) (fun _ _ => .nil) ?_ ?_⟩
      · rintro j x acc H2 N N0 hx s2 hacc hI hN hN0
        obtain ⟨c, hc, hr⟩ := paired_get h3 hx
        have hr := hr.same (e.trans s2)
        refine ⟨rfl, ?_⟩
        refine ⟨_, rfl, hr.i1 ⟨_, rfl, _, _, rfl, rfl, _, rfl, ?_⟩⟩
        have keep : ∀ H5, But D H2 H5 → ∀ {x : V} {c : Int × Int}, PairT H2 x c → PairT H5 x c := fun H5 b5 {x c} z => by
          obtain ⟨u, rfl, h⟩ := z
          exact ⟨u, rfl, b5 _ _ h fun z => by rw [z, hacc] at h; cases h⟩
        refine ite2 (fun q => ?_) (fun q => ?_)
        · refine ⟨_, rfl, hN _ _ (Same.refl _) fun H5 b5 _ => ?_⟩
          rw [take_get hc, List.filter_append, List.filter_cons, if_pos q]
          exact paired_snoc (Paired.mapP hI fun _ _ z => keep H5 b5 z) (keep H5 b5 hr)
        · refine hN0 _ (Same.refl _) ?_
          rw [take_get hc, List.filter_append, List.filter_cons, if_neg q]
          show Paired _ acc (_ ++ [])
          rw [List.append_nil]
          exact hI
      · rintro acc H2 s2 hacc hal hI
        rw [Paired.length h3, List.take_length] at hI
        have e2 := e.trans s2
        have hfl : (ws.filter fun c => decide (c.2 ≤ 1 + (i : Int))).length ≤ 120 := Nat.le_trans (List.length_filter_le _ _) hlw
        refine ⟨_, rfl, gp, dx, _, rfl, e2 _ _ i1, gf_no (by decide +kernel) (by decide +kernel), _, rfl, gp, d, ws, _, rfl, hG.same e2, d2, hlw, hVw, fun z => absurd (show 1 ≤ 1 + (i : Int) ∧ 1 + (i : Int) ≤ d by omega) z, fun _ _ mp H3 hmp s3 hMp => ?_⟩
        obtain ⟨dy, lh, xh, j1, j2, j3⟩ := id hMp
        have e3 := e2.trans s3
        generalize hfw : (ws.filter fun c => decide (c.2 ≤ 1 + (i : Int))) = fw at hfl hMp hI j3
        have hal2 : acc.length = fw.length := Paired.length hI
        refine ⟨_, rfl, mp, dy, _, rfl, j1, gf_no (by decide +kernel) (by decide +kernel), mp, _, fw, rfl, hMp, fun r1 x1 H4 hr1 s4 hR hP => ?_⟩
        refine ⟨_, rfl, _, _, rfl, mt_pairs (by omega) hR (s4 _ _ (s3 _ _ hacc)) hP (Paired.mapP hI fun _ _ z => z.same (s3.trans s4)), fun H5 s5 => ⟨_, rfl, ?_⟩⟩
        have s45 := s4.trans s5
        refine ⟨_, rfl, mp, dy, _, rfl, s45 _ _ j1, gf_no (by decide +kernel) (by decide +kernel), mp, _, fw, rfl, hMp.same s45, _, rfl, _, _, rfl, mt_int2 _, fun H6 s6 => ⟨_, rfl, ?_⟩⟩
        have s46 := s45.trans s6
        have hbs : badS (1 + (i : Int)) 0 (1 + (i : Int)) = none := by
          unfold badS
          repeat' split
          all_goals first | rfl | omega
        refine ⟨_, rfl, mp, dy, _, rfl, s46 _ _ j1, gf_no (by decide +kernel) (by decide +kernel), _, rfl, mp, _, fw, _, _, rfl, hMp.same s46, by omega, (fun x hx => by rw [hbs] at hx; cases hx), fun _ H7 s7 => ?_⟩
        have s47 := s46.trans s7
        refine ⟨_, rfl, D, acc, rfl, .inl (SqL.of (s47 _ _ (s3 _ _ hacc))), ?_⟩
        have hin : inC 0 (1 + (i : Int)) fw = (acc.length : Int) := by
          rw [hal2, ← hfw]
          unfold inC
          rw [List.filter_eq_self.mpr fun c hc => ?_]
          obtain ⟨h, h'⟩ := List.mem_filter.mp hc
          have := of_decide_eq_true h'
          have := hVw c h
          unfold VW at this
          simp
          omega
        rw [hin]
        refine ⟨_, _, rfl, mt_int2 _, fun H8 s8 => ⟨_, rfl, ?_⟩⟩
        have s48 := s47.trans s8
        refine ⟨_, rfl, mp, dy, _, rfl, s48 _ _ j1, gf_no (by decide +kernel) (by decide +kernel), mp, _, fw, rfl, hMp.same s48, _, rfl, D, acc, rfl, .inl (SqL.of (s48 _ _ (s3 _ _ hacc))), ?_⟩
        rw [hal2]
        refine ⟨_, _, rfl, mt_int2 _, fun H9 s9 => ⟨_, rfl, ?_⟩⟩
        exact ⟨_, _, _, _, _, _, rfl, e3.trans (s48.trans s9)⟩
    · rintro σ H' ⟨v4, v5, v6, v7, v8, v9, rfl, e⟩
      refine ⟨_, rfl, m, ys, rfl, .inl (SqL.of (e _ _ hm)), fun hd hhd => ?_⟩
      obtain ⟨s1, g1⟩ := new2 (.lst ys) hhd
      have e1 := e.trans s1
      have hM1 := Paired.mapP hM fun _ _ z => z.same e1
      refine ⟨_, rfl, gp, dx, _, rfl, e1 _ _ i1, gf_no (by decide +kernel) (by decide +kernel), _, rfl, gp, d, ws, hd, ys, ms, rfl, hG.same e1, g1, hM1, by omega, by omega, GErr.ok d1 d2 hl hV, fun _ _ _ _ wp H2 hwp s2 hW => ?_⟩
      have e2 := e1.trans s2
      refine ⟨_, rfl, _, rfl, ne_pairs (s2 _ _ g1) (e2 _ _ hm) (Paired.mapP hM1 fun _ _ z => z.same s2) (Paired.mapP hM fun _ _ z => z.same e2) ⟨_, rfl, ?_⟩⟩
      have hcl : (xs ++ ys).length ≤ 120 := by rw [List.length_append, Paired.length h3, Paired.length hM, ← List.length_append]; exact hl
      refine ⟨_, rfl, _, rfl, _, rfl, l, m, _, _, rfl, rfl, e2 _ _ h2, e2 _ _ hm, line_of (by omega), fun c1 hc1 => ?_⟩
      obtain ⟨s3, g3⟩ := new2 (.lst (xs ++ ys)) hc1
      have e3 := e2.trans s3
      have hP3 := paired_app (Paired.mapP h3 fun _ _ z => z.same e3) (Paired.mapP hM fun _ _ z => z.same e3)
      refine ⟨_, rfl, d, c1, _, _, wp, rfl, g3, hP3, (hW.same s3).at, d1, d2, hl, hV, fun H4 s4 => ⟨_, rfl, ?_⟩⟩
      have s24 := s3.trans s4
      have e4 := e2.trans s24
      have g4 := s24 _ _ (s2 _ _ g1)
      refine ⟨_, rfl, .inl ⟨rfl, _, SqL.of g4⟩, (by show 2 ≤ sizeLine; decide), fun t ht => ?_⟩
      obtain ⟨s5, g5⟩ := new2 (.tup [.int 1, .int 1]) ht
      refine ⟨hd, ys, _, rfl, rfl, s5 _ _ g4, line_lt (by omega), ?_⟩
      have e5 : Same H (upd (upd H4 t (.tup [.int 1, .int 1])) hd (.lst (ys ++ [V.ref t]))) := same_mut (e4.trans s5) (e.nn hhd)
      have hW5 := (GardenN.mut (o := .lst (ys ++ [V.ref t])) (fun z => by rw [g1] at z; cases z) (s5 _ _ g4) (hW.same (s24.trans s5))).at
      generalize upd (upd H4 t (.tup [.int 1, .int 1])) hd (.lst (ys ++ [V.ref t])) = H5 at e5 hW5 ⊢
      obtain ⟨dv, lv, xv, v1, v2, v3⟩ := id hW5
      refine ⟨_, rfl, wp, dv, _, rfl, v1, gf_no (by decide +kernel) (by decide +kernel), wp, d, _, rfl, hW5, fun r1 x1 H6 hr1 s6 hR hP => ?_⟩
      have e6 := e5.trans s6
      refine ⟨_, rfl, _, rfl, l, m, _, _, rfl, rfl, e6 _ _ h2, e6 _ _ hm, line_of (by omega), fun c2 hc2 => ?_⟩
      obtain ⟨s7, g7⟩ := new2 (.lst (xs ++ ys)) hc2
      have e7 := e6.trans s7
      have hP7 := paired_app (Paired.mapP h3 fun _ _ z => z.same e7) (Paired.mapP hM fun _ _ z => z.same e7)
      refine ⟨_, _, rfl, mt_pairs (by omega) (s7 _ _ hR) g7 (Paired.mapP hP fun _ _ z => z.same s7) hP7, fun H8 s8 => ?_⟩
      have e8 := e7.trans s8
      refine ⟨_, rfl, _, rfl, gp, dx, _, rfl, e8 _ _ i1, gf_no (by decide +kernel) (by decide +kernel), gp, d, ws, rfl, hG.same e8, fun r2 x2 H9 hr2 s9 hR2 hP2 => ?_⟩
      have e9 := e8.trans s9
      refine ⟨_, rfl, _, _, rfl, mt_pairs (by omega) hR2 (e9 _ _ h2) hP2 (Paired.mapP h3 fun _ _ z => z.same e9), fun H10 s10 => ?_⟩
      exact k _ (e9.trans s10)
end
end K04
end
section
set_option maxRecDepth 100000
set_option maxHeartbeats 4000000
namespace K04
open PySem PySem.Spec PyProof.Rows L2
theorem app1 {H H1 : Hp} {a t : Addr} {xs : List V} (s : Same H H1) (ha : H a = none) (hF : H1 a = some (.lst [])) (hT : H1 t = some (.tup xs)) : ∃ H2, H2 = upd H1 a (.lst ([] ++ [V.ref t])) ∧ Same H H2 ∧ H2 t = some (.tup xs) ∧ H2 a = some (.lst [V.ref t]) :=
  ⟨_, rfl, same_mut s ha, by rw [upd_ne fun z => by rw [z, hF] at hT; cases hT]; exact hT, upd_same⟩
theorem kany_f {K : PySem.W.Frag} {t c : Value} {l : List Value} (h : PySem.W.kitOne K t c = some false) (r : PySem.W.kitAny K t l = some false) : PySem.W.kitAny K t (c :: l) = some false := by
  unfold PySem.W.kitAny
  rw [h]
  exact r
section
variable {P : Program} {w : World} {K : PySem.W.Frag} {mg : Str → Option Value} {base : Heap}
theorem body_TooMany (T : Txt w K mg) {A : Around} {outer : List Env} {s : Shared} {H : Hp} {Q : VK} {p : Addr × Obj} {d : Addr} {v : V} {f : Addr} {cdv : Value} (hz : Zc (.ref (cTM K)) (some d) p.2) (hf : ∃ vs, p.2.data = .fields vs)
    (hd : H d = some (.xd [("what", v)])) (q : ∀ l t H', Same H H' → H' t = some (.tup [.str "TooMany", v]) → H' l = some (.lst [.ref t]) → Q (.ref l) H') :
    ∃ t, PSs (L2H.cxH CX0 P w K mg base ["error", "found"] "_law_b_told" (defScope s__law_b_told) f cdv A outer s H E0 p) (defBody s__law_b_told) t ∧ t { nx := fun _ H' => Q .non H', rt := Q } (L2.start ["error", "found"] [.ref p.1]) H := by
  refine ⟨_, (pss_cons (ps_set (i := 1) sc__law_b_told.nd rfl (by first | exact Or.inl rfl | exact Or.inr rfl) (pe_lst pa_nil))
      (pss_cons (ps_if (pt_val (pe_callB (call_isD (p := p) (D := cTM K) (d := d) List.mem_cons_self (xt_TooMany T).exc hz hf) rfl (n_isinstance T) (by decide +kernel) (pa_cons (pv 0) (pa_cons (pe_glob (v := .ref _) rfl (g_TooMany T) rfl) pa_nil)))) (pss_one (ps_expr (pe_bm PySem.F.plainAttrs_list PySem.F.slot_list_append PySem.F.type_list_append mt_append (pv 1) (pa_cons (pe_tup (pa_cons pe_str (pa_cons (pe_xfG (p := p) (C := cTM K) List.mem_cons_self (xt_TooMany T).xf (xn_TooMany_what T) hz hf (pv 0)) pa_nil))) pa_nil)))) pss_nil)
      (pss_cons (ps_if (pt_val (pe_callB (call_isD (p := p) (D := cTM K) (d := d) List.mem_cons_self (xt_TooMany T).exc hz hf) rfl (n_isinstance T) (by decide +kernel) (pa_cons (pv 0) (pa_cons (pe_glob (v := .ref _) rfl (g_BadSky T) rfl) pa_nil)))) (pss_one (ps_expr (pe_bm PySem.F.plainAttrs_list PySem.F.slot_list_append PySem.F.type_list_append mt_append (pv 1) (pa_cons (pe_tup (pa_cons pe_str (pa_cons pe_noway pa_nil))) pa_nil)))) pss_nil)
      (pss_cons (ps_if (pt_val (pe_callB (call_isD (p := p) (D := cTM K) (d := d) List.mem_cons_self (xt_TooMany T).exc hz hf) rfl (n_isinstance T) (by decide +kernel) (pa_cons (pv 0) (pa_cons (pe_glob (v := .ref _) rfl (g_BadWeather T) rfl) pa_nil)))) (pss_one (ps_expr (pe_bm PySem.F.plainAttrs_list PySem.F.slot_list_append PySem.F.type_list_append mt_append (pv 1) (pa_cons (pe_tup (pa_cons pe_str (pa_cons pe_noway pa_nil))) pa_nil)))) pss_nil)
      (pss_cons (ps_if (pt_val (pe_callB (call_isD (p := p) (D := cTM K) (d := d) List.mem_cons_self (xt_TooMany T).exc hz hf) rfl (n_isinstance T) (by decide +kernel) (pa_cons (pv 0) (pa_cons (pe_glob (v := .ref _) rfl (g_BadReport T) rfl) pa_nil)))) (pss_one (ps_expr (pe_bm PySem.F.plainAttrs_list PySem.F.slot_list_append PySem.F.type_list_append mt_append (pv 1) (pa_cons (pe_tup (pa_cons pe_str (pa_cons pe_noway pa_nil))) pa_nil)))) pss_nil)
      (pss_cons (ps_if (pt_val (pe_callB (call_isD (p := p) (D := cTM K) (d := d) List.mem_cons_self (xt_TooMany T).exc hz hf) rfl (n_isinstance T) (by decide +kernel) (pa_cons (pv 0) (pa_cons (pe_glob (v := .ref _) rfl (g_BadGarden T) rfl) pa_nil)))) (pss_one (ps_expr (pe_bm PySem.F.plainAttrs_list PySem.F.slot_list_append PySem.F.type_list_append mt_append (pv 1) (pa_cons (pe_tup (pa_cons pe_str (pa_cons pe_noway pa_nil))) pa_nil)))) pss_nil)
      (pss_cons (ps_if (pt_val (pe_callB (call_isD (p := p) (D := cTM K) (d := d) List.mem_cons_self (xt_TooMany T).exc hz hf) rfl (n_isinstance T) (by decide +kernel) (pa_cons (pv 0) (pa_cons (pe_glob (v := .ref _) rfl (g_BadSetting T) rfl) pa_nil)))) (pss_one (ps_expr (pe_bm PySem.F.plainAttrs_list PySem.F.slot_list_append PySem.F.type_list_append mt_append (pv 1) (pa_cons (pe_tup (pa_cons pe_str (pa_cons (pe_xfG (p := p) (C := cTM K) List.mem_cons_self (xt_TooMany T).xf (xn_TooMany_what T) hz hf (pv 0)) pa_nil))) pa_nil)))) pss_nil)
      (pss_cons (ps_if (pt_val (pe_callB (call_isD (p := p) (D := cTM K) (d := d) List.mem_cons_self (xt_TooMany T).exc hz hf) rfl (n_isinstance T) (by decide +kernel) (pa_cons (pv 0) (pa_cons (pe_glob (v := .ref _) rfl (g_BadHouse T) rfl) pa_nil)))) (pss_one (ps_expr (pe_bm PySem.F.plainAttrs_list PySem.F.slot_list_append PySem.F.type_list_append mt_append (pv 1) (pa_cons (pe_tup (pa_cons pe_str (pa_cons pe_noway pa_nil))) pa_nil)))) pss_nil)
      (pss_cons (ps_if (pt_val (pe_callB (call_isD (p := p) (D := cTM K) (d := d) List.mem_cons_self (xt_TooMany T).exc hz hf) rfl (n_isinstance T) (by decide +kernel) (pa_cons (pv 0) (pa_cons (pe_glob (v := .ref _) rfl (g_BadDay T) rfl) pa_nil)))) (pss_one (ps_expr (pe_bm PySem.F.plainAttrs_list PySem.F.slot_list_append PySem.F.type_list_append mt_append (pv 1) (pa_cons (pe_tup (pa_cons pe_str (pa_cons pe_noway pa_nil))) pa_nil)))) pss_nil)
      (pss_cons (ps_if (pt_val (pe_callB (call_isD (p := p) (D := cTM K) (d := d) List.mem_cons_self (xt_TooMany T).exc hz hf) rfl (n_isinstance T) (by decide +kernel) (pa_cons (pv 0) (pa_cons (pe_glob (v := .ref _) rfl (g_BadText T) rfl) pa_nil)))) (pss_one (ps_expr (pe_bm PySem.F.plainAttrs_list PySem.F.slot_list_append PySem.F.type_list_append mt_append (pv 1) (pa_cons (pe_tup (pa_cons pe_str (pa_cons pe_noway pa_nil))) pa_nil)))) pss_nil)
      (pss_cons (ps_if (pt_val (pe_callB (call_isD (p := p) (D := cTM K) (d := d) List.mem_cons_self (xt_TooMany T).exc hz hf) rfl (n_isinstance T) (by decide +kernel) (pa_cons (pv 0) (pa_cons (pe_glob (v := .ref _) rfl (g_NotKept T) rfl) pa_nil)))) (pss_one (ps_expr (pe_bm PySem.F.plainAttrs_list PySem.F.slot_list_append PySem.F.type_list_append mt_append (pv 1) (pa_cons (pe_tup (pa_cons pe_str (pa_cons pe_noway (pa_cons pe_noway pa_nil)))) pa_nil)))) pss_nil)
      (pss_cons (ps_if (pt_val (pe_callB (call_isD (p := p) (D := cTM K) (d := d) List.mem_cons_self (xt_TooMany T).exc hz hf) rfl (n_isinstance T) (by decide +kernel) (pa_cons (pv 0) (pa_cons (pe_glob (v := .ref _) rfl (g_Unsafe T) rfl) pa_nil)))) (pss_one (ps_expr (pe_bm PySem.F.plainAttrs_list PySem.F.slot_list_append PySem.F.type_list_append mt_append (pv 1) (pa_cons (pe_tup (pa_cons pe_str (pa_cons pe_noway (pa_cons pe_noway pa_nil)))) pa_nil)))) pss_nil)
      (pss_cons (ps_if (pt_val (pe_callB (call_isDT (p := p) (D := cTM K) (d := d) List.mem_cons_self (xt_TooMany T).exc hz hf) rfl (n_isinstance T) (by decide +kernel) (pa_cons (pv 0) (pa_cons (pe_tup (pa_cons (pe_glob (v := .ref _) rfl (g_BadCalls T) rfl) (pa_cons (pe_glob (v := .ref _) rfl (g_BadOffers T) rfl) (pa_cons (pe_glob (v := .ref _) rfl (g_BadTable T) rfl) (pa_cons (pe_glob (v := .ref _) rfl (g_BadRow T) rfl) (pa_cons (pe_glob (v := .ref _) rfl (g_BadCalendar T) rfl) (pa_cons (pe_glob (v := .ref _) rfl (g_BadDeed T) rfl) pa_nil))))))) pa_nil)))) (pss_one (ps_expr (pe_bm PySem.F.plainAttrs_list PySem.F.slot_list_append PySem.F.type_list_append mt_append (pv 1) (pa_cons (pe_tup (pa_cons pe_str pa_nil)) pa_nil)))) pss_nil)
      (pss_one (ps_ret (pe_ifExp (pt_val (pe_callB (call_isD (p := p) (D := cTM K) (d := d) List.mem_cons_self (xt_TooMany T).exc hz hf) rfl (n_isinstance T) (by decide +kernel) (pa_cons (pv 0) (pa_cons (pe_bltn (v := .ty "ValueError") (u := .type "ValueError") rfl (n_ValueError T) (by decide +kernel) rfl) pa_nil)))) (pv 1) (pe_lst pa_nil))))))))))))))))), ?_⟩

  refine ⟨(by show 0 ≤ sizeLine; decide), fun a ha => ?_⟩
  obtain ⟨h0, hF⟩ := new2 (.lst []) ha
  refine ⟨_, rfl, _, _, true, _, rfl, (fun u e => e), h0 _ _ hd, xk_TooMany_TooMany T, _, rfl, iteT ?_⟩
  refine ⟨_, rfl, .inl ⟨rfl, _, SqL.of hF⟩, _, rfl, rfl, rfl, d, _, v, rfl, h0 _ _ hd, rfl, (by show 2 ≤ sizeLine; decide), fun t ht => ?_⟩
  obtain ⟨hA, hT⟩ := new2 (.tup [.str "TooMany", v]) ht
  have hF := hA _ _ hF
  have h1 := h0.trans hA
  refine ⟨a, [], _, rfl, rfl, hF, (by show 0 < sizeLine; decide), ?_⟩
  obtain ⟨H2, eH, h2, hT, hF⟩ := app1 h1 ha hF hT
  rw [← eH]
  clear hA eH
  refine ⟨_, rfl, _, _, false, _, rfl, (fun u e => e), h2 _ _ hd, xk_TooMany_BadSky T, _, rfl, iteF ?_⟩
  refine ⟨_, rfl, _, _, false, _, rfl, (fun u e => e), h2 _ _ hd, xk_TooMany_BadWeather T, _, rfl, iteF ?_⟩
  refine ⟨_, rfl, _, _, false, _, rfl, (fun u e => e), h2 _ _ hd, xk_TooMany_BadReport T, _, rfl, iteF ?_⟩
  refine ⟨_, rfl, _, _, false, _, rfl, (fun u e => e), h2 _ _ hd, xk_TooMany_BadGarden T, _, rfl, iteF ?_⟩
  refine ⟨_, rfl, _, _, false, _, rfl, (fun u e => e), h2 _ _ hd, xk_TooMany_BadSetting T, _, rfl, iteF ?_⟩
  refine ⟨_, rfl, _, _, false, _, rfl, (fun u e => e), h2 _ _ hd, xk_TooMany_BadHouse T, _, rfl, iteF ?_⟩
  refine ⟨_, rfl, _, _, false, _, rfl, (fun u e => e), h2 _ _ hd, xk_TooMany_BadDay T, _, rfl, iteF ?_⟩
  refine ⟨_, rfl, _, _, false, _, rfl, (fun u e => e), h2 _ _ hd, xk_TooMany_BadText T, _, rfl, iteF ?_⟩
  refine ⟨_, rfl, _, _, false, _, rfl, (fun u e => e), h2 _ _ hd, xk_TooMany_NotKept T, _, rfl, iteF ?_⟩
  refine ⟨_, rfl, _, _, false, _, rfl, (fun u e => e), h2 _ _ hd, xk_TooMany_Unsafe T, _, rfl, iteF ?_⟩
  refine ⟨_, rfl, (by show 6 ≤ sizeLine; decide), fun tp htp => ?_⟩
  obtain ⟨hA, hTp⟩ := new2 (.tup [V.ref (He.ga K "BadCalls"), V.ref (He.ga K "BadOffers"), V.ref (He.ga K "BadTable"), V.ref (He.ga K "BadRow"), V.ref (He.ga K "BadCalendar"), V.ref (He.ga K "BadDeed")]) htp
  have hT := hA _ _ hT
  have hF := hA _ _ hF
  have h3 := h2.trans hA
  refine ⟨tp, _, _, false, _, rfl, hTp, (.cons (.own _) (.cons (.own _) (.cons (.own _) (.cons (.own _) (.cons (.own _) (.cons (.own _) .nil)))))), h3 _ _ hd, (kany_f (xk_TooMany_BadCalls T) (kany_f (xk_TooMany_BadOffers T) (kany_f (xk_TooMany_BadTable T) (kany_f (xk_TooMany_BadRow T) (kany_f (xk_TooMany_BadCalendar T) (kany_f (xk_TooMany_BadDeed T) rfl)))))), _, rfl, iteF ?_⟩
  refine ⟨_, rfl, _, _, true, _, rfl, (fun u e => e), h3 _ _ hd, xv_TooMany T, _, rfl, iteT ⟨_, rfl, ?_⟩⟩
  exact q _ _ _ h3 hT hF

theorem body_BadGarden (T : Txt w K mg) {A : Around} {outer : List Env} {s : Shared} {H : Hp} {Q : VK} {p : Addr × Obj} {d : Addr} {v : V} {f : Addr} {cdv : Value} (hz : Zc (.ref (cBG K)) (some d) p.2) (hf : ∃ vs, p.2.data = .fields vs)
    (hd : H d = some (.xd [("row", v)])) (q : ∀ l t H', Same H H' → H' t = some (.tup [.str "BadGarden", v]) → H' l = some (.lst [.ref t]) → Q (.ref l) H') :
    ∃ t, PSs (L2H.cxH CX0 P w K mg base ["error", "found"] "_law_b_told" (defScope s__law_b_told) f cdv A outer s H E0 p) (defBody s__law_b_told) t ∧ t { nx := fun _ H' => Q .non H', rt := Q } (L2.start ["error", "found"] [.ref p.1]) H := by
  refine ⟨_, (pss_cons (ps_set (i := 1) sc__law_b_told.nd rfl (by first | exact Or.inl rfl | exact Or.inr rfl) (pe_lst pa_nil))
      (pss_cons (ps_if (pt_val (pe_callB (call_isD (p := p) (D := cBG K) (d := d) List.mem_cons_self (xt_BadGarden T).exc hz hf) rfl (n_isinstance T) (by decide +kernel) (pa_cons (pv 0) (pa_cons (pe_glob (v := .ref _) rfl (g_TooMany T) rfl) pa_nil)))) (pss_one (ps_expr (pe_bm PySem.F.plainAttrs_list PySem.F.slot_list_append PySem.F.type_list_append mt_append (pv 1) (pa_cons (pe_tup (pa_cons pe_str (pa_cons pe_noway pa_nil))) pa_nil)))) pss_nil)
      (pss_cons (ps_if (pt_val (pe_callB (call_isD (p := p) (D := cBG K) (d := d) List.mem_cons_self (xt_BadGarden T).exc hz hf) rfl (n_isinstance T) (by decide +kernel) (pa_cons (pv 0) (pa_cons (pe_glob (v := .ref _) rfl (g_BadSky T) rfl) pa_nil)))) (pss_one (ps_expr (pe_bm PySem.F.plainAttrs_list PySem.F.slot_list_append PySem.F.type_list_append mt_append (pv 1) (pa_cons (pe_tup (pa_cons pe_str (pa_cons (pe_xfG (p := p) (C := cBG K) List.mem_cons_self (xt_BadGarden T).xf (xn_BadGarden_row T) hz hf (pv 0)) pa_nil))) pa_nil)))) pss_nil)
      (pss_cons (ps_if (pt_val (pe_callB (call_isD (p := p) (D := cBG K) (d := d) List.mem_cons_self (xt_BadGarden T).exc hz hf) rfl (n_isinstance T) (by decide +kernel) (pa_cons (pv 0) (pa_cons (pe_glob (v := .ref _) rfl (g_BadWeather T) rfl) pa_nil)))) (pss_one (ps_expr (pe_bm PySem.F.plainAttrs_list PySem.F.slot_list_append PySem.F.type_list_append mt_append (pv 1) (pa_cons (pe_tup (pa_cons pe_str (pa_cons pe_noway pa_nil))) pa_nil)))) pss_nil)
      (pss_cons (ps_if (pt_val (pe_callB (call_isD (p := p) (D := cBG K) (d := d) List.mem_cons_self (xt_BadGarden T).exc hz hf) rfl (n_isinstance T) (by decide +kernel) (pa_cons (pv 0) (pa_cons (pe_glob (v := .ref _) rfl (g_BadReport T) rfl) pa_nil)))) (pss_one (ps_expr (pe_bm PySem.F.plainAttrs_list PySem.F.slot_list_append PySem.F.type_list_append mt_append (pv 1) (pa_cons (pe_tup (pa_cons pe_str (pa_cons pe_noway pa_nil))) pa_nil)))) pss_nil)
      (pss_cons (ps_if (pt_val (pe_callB (call_isD (p := p) (D := cBG K) (d := d) List.mem_cons_self (xt_BadGarden T).exc hz hf) rfl (n_isinstance T) (by decide +kernel) (pa_cons (pv 0) (pa_cons (pe_glob (v := .ref _) rfl (g_BadGarden T) rfl) pa_nil)))) (pss_one (ps_expr (pe_bm PySem.F.plainAttrs_list PySem.F.slot_list_append PySem.F.type_list_append mt_append (pv 1) (pa_cons (pe_tup (pa_cons pe_str (pa_cons (pe_xfG (p := p) (C := cBG K) List.mem_cons_self (xt_BadGarden T).xf (xn_BadGarden_row T) hz hf (pv 0)) pa_nil))) pa_nil)))) pss_nil)
      (pss_cons (ps_if (pt_val (pe_callB (call_isD (p := p) (D := cBG K) (d := d) List.mem_cons_self (xt_BadGarden T).exc hz hf) rfl (n_isinstance T) (by decide +kernel) (pa_cons (pv 0) (pa_cons (pe_glob (v := .ref _) rfl (g_BadSetting T) rfl) pa_nil)))) (pss_one (ps_expr (pe_bm PySem.F.plainAttrs_list PySem.F.slot_list_append PySem.F.type_list_append mt_append (pv 1) (pa_cons (pe_tup (pa_cons pe_str (pa_cons pe_noway pa_nil))) pa_nil)))) pss_nil)
      (pss_cons (ps_if (pt_val (pe_callB (call_isD (p := p) (D := cBG K) (d := d) List.mem_cons_self (xt_BadGarden T).exc hz hf) rfl (n_isinstance T) (by decide +kernel) (pa_cons (pv 0) (pa_cons (pe_glob (v := .ref _) rfl (g_BadHouse T) rfl) pa_nil)))) (pss_one (ps_expr (pe_bm PySem.F.plainAttrs_list PySem.F.slot_list_append PySem.F.type_list_append mt_append (pv 1) (pa_cons (pe_tup (pa_cons pe_str (pa_cons pe_noway pa_nil))) pa_nil)))) pss_nil)
      (pss_cons (ps_if (pt_val (pe_callB (call_isD (p := p) (D := cBG K) (d := d) List.mem_cons_self (xt_BadGarden T).exc hz hf) rfl (n_isinstance T) (by decide +kernel) (pa_cons (pv 0) (pa_cons (pe_glob (v := .ref _) rfl (g_BadDay T) rfl) pa_nil)))) (pss_one (ps_expr (pe_bm PySem.F.plainAttrs_list PySem.F.slot_list_append PySem.F.type_list_append mt_append (pv 1) (pa_cons (pe_tup (pa_cons pe_str (pa_cons pe_noway pa_nil))) pa_nil)))) pss_nil)
      (pss_cons (ps_if (pt_val (pe_callB (call_isD (p := p) (D := cBG K) (d := d) List.mem_cons_self (xt_BadGarden T).exc hz hf) rfl (n_isinstance T) (by decide +kernel) (pa_cons (pv 0) (pa_cons (pe_glob (v := .ref _) rfl (g_BadText T) rfl) pa_nil)))) (pss_one (ps_expr (pe_bm PySem.F.plainAttrs_list PySem.F.slot_list_append PySem.F.type_list_append mt_append (pv 1) (pa_cons (pe_tup (pa_cons pe_str (pa_cons pe_noway pa_nil))) pa_nil)))) pss_nil)
      (pss_cons (ps_if (pt_val (pe_callB (call_isD (p := p) (D := cBG K) (d := d) List.mem_cons_self (xt_BadGarden T).exc hz hf) rfl (n_isinstance T) (by decide +kernel) (pa_cons (pv 0) (pa_cons (pe_glob (v := .ref _) rfl (g_NotKept T) rfl) pa_nil)))) (pss_one (ps_expr (pe_bm PySem.F.plainAttrs_list PySem.F.slot_list_append PySem.F.type_list_append mt_append (pv 1) (pa_cons (pe_tup (pa_cons pe_str (pa_cons pe_noway (pa_cons pe_noway pa_nil)))) pa_nil)))) pss_nil)
      (pss_cons (ps_if (pt_val (pe_callB (call_isD (p := p) (D := cBG K) (d := d) List.mem_cons_self (xt_BadGarden T).exc hz hf) rfl (n_isinstance T) (by decide +kernel) (pa_cons (pv 0) (pa_cons (pe_glob (v := .ref _) rfl (g_Unsafe T) rfl) pa_nil)))) (pss_one (ps_expr (pe_bm PySem.F.plainAttrs_list PySem.F.slot_list_append PySem.F.type_list_append mt_append (pv 1) (pa_cons (pe_tup (pa_cons pe_str (pa_cons pe_noway (pa_cons pe_noway pa_nil)))) pa_nil)))) pss_nil)
      (pss_cons (ps_if (pt_val (pe_callB (call_isDT (p := p) (D := cBG K) (d := d) List.mem_cons_self (xt_BadGarden T).exc hz hf) rfl (n_isinstance T) (by decide +kernel) (pa_cons (pv 0) (pa_cons (pe_tup (pa_cons (pe_glob (v := .ref _) rfl (g_BadCalls T) rfl) (pa_cons (pe_glob (v := .ref _) rfl (g_BadOffers T) rfl) (pa_cons (pe_glob (v := .ref _) rfl (g_BadTable T) rfl) (pa_cons (pe_glob (v := .ref _) rfl (g_BadRow T) rfl) (pa_cons (pe_glob (v := .ref _) rfl (g_BadCalendar T) rfl) (pa_cons (pe_glob (v := .ref _) rfl (g_BadDeed T) rfl) pa_nil))))))) pa_nil)))) (pss_one (ps_expr (pe_bm PySem.F.plainAttrs_list PySem.F.slot_list_append PySem.F.type_list_append mt_append (pv 1) (pa_cons (pe_tup (pa_cons pe_str pa_nil)) pa_nil)))) pss_nil)
      (pss_one (ps_ret (pe_ifExp (pt_val (pe_callB (call_isD (p := p) (D := cBG K) (d := d) List.mem_cons_self (xt_BadGarden T).exc hz hf) rfl (n_isinstance T) (by decide +kernel) (pa_cons (pv 0) (pa_cons (pe_bltn (v := .ty "ValueError") (u := .type "ValueError") rfl (n_ValueError T) (by decide +kernel) rfl) pa_nil)))) (pv 1) (pe_lst pa_nil))))))))))))))))), ?_⟩

  refine ⟨(by show 0 ≤ sizeLine; decide), fun a ha => ?_⟩
  obtain ⟨h0, hF⟩ := new2 (.lst []) ha
  refine ⟨_, rfl, _, _, false, _, rfl, (fun u e => e), h0 _ _ hd, xk_BadGarden_TooMany T, _, rfl, iteF ?_⟩
  refine ⟨_, rfl, _, _, false, _, rfl, (fun u e => e), h0 _ _ hd, xk_BadGarden_BadSky T, _, rfl, iteF ?_⟩
  refine ⟨_, rfl, _, _, false, _, rfl, (fun u e => e), h0 _ _ hd, xk_BadGarden_BadWeather T, _, rfl, iteF ?_⟩
  refine ⟨_, rfl, _, _, false, _, rfl, (fun u e => e), h0 _ _ hd, xk_BadGarden_BadReport T, _, rfl, iteF ?_⟩
  refine ⟨_, rfl, _, _, true, _, rfl, (fun u e => e), h0 _ _ hd, xk_BadGarden_BadGarden T, _, rfl, iteT ?_⟩
  refine ⟨_, rfl, .inl ⟨rfl, _, SqL.of hF⟩, _, rfl, rfl, rfl, d, _, v, rfl, h0 _ _ hd, rfl, (by show 2 ≤ sizeLine; decide), fun t ht => ?_⟩
  obtain ⟨hA, hT⟩ := new2 (.tup [.str "BadGarden", v]) ht
  have hF := hA _ _ hF
  have h1 := h0.trans hA
  refine ⟨a, [], _, rfl, rfl, hF, (by show 0 < sizeLine; decide), ?_⟩
  obtain ⟨H2, eH, h2, hT, hF⟩ := app1 h1 ha hF hT
  rw [← eH]
  clear hA eH
  refine ⟨_, rfl, _, _, false, _, rfl, (fun u e => e), h2 _ _ hd, xk_BadGarden_BadSetting T, _, rfl, iteF ?_⟩
  refine ⟨_, rfl, _, _, false, _, rfl, (fun u e => e), h2 _ _ hd, xk_BadGarden_BadHouse T, _, rfl, iteF ?_⟩
  refine ⟨_, rfl, _, _, false, _, rfl, (fun u e => e), h2 _ _ hd, xk_BadGarden_BadDay T, _, rfl, iteF ?_⟩
  refine ⟨_, rfl, _, _, false, _, rfl, (fun u e => e), h2 _ _ hd, xk_BadGarden_BadText T, _, rfl, iteF ?_⟩
  refine ⟨_, rfl, _, _, false, _, rfl, (fun u e => e), h2 _ _ hd, xk_BadGarden_NotKept T, _, rfl, iteF ?_⟩
  refine ⟨_, rfl, _, _, false, _, rfl, (fun u e => e), h2 _ _ hd, xk_BadGarden_Unsafe T, _, rfl, iteF ?_⟩
  refine ⟨_, rfl, (by show 6 ≤ sizeLine; decide), fun tp htp => ?_⟩
  obtain ⟨hA, hTp⟩ := new2 (.tup [V.ref (He.ga K "BadCalls"), V.ref (He.ga K "BadOffers"), V.ref (He.ga K "BadTable"), V.ref (He.ga K "BadRow"), V.ref (He.ga K "BadCalendar"), V.ref (He.ga K "BadDeed")]) htp
  have hT := hA _ _ hT
  have hF := hA _ _ hF
  have h3 := h2.trans hA
  refine ⟨tp, _, _, false, _, rfl, hTp, (.cons (.own _) (.cons (.own _) (.cons (.own _) (.cons (.own _) (.cons (.own _) (.cons (.own _) .nil)))))), h3 _ _ hd, (kany_f (xk_BadGarden_BadCalls T) (kany_f (xk_BadGarden_BadOffers T) (kany_f (xk_BadGarden_BadTable T) (kany_f (xk_BadGarden_BadRow T) (kany_f (xk_BadGarden_BadCalendar T) (kany_f (xk_BadGarden_BadDeed T) rfl)))))), _, rfl, iteF ?_⟩
  refine ⟨_, rfl, _, _, true, _, rfl, (fun u e => e), h3 _ _ hd, xv_BadGarden T, _, rfl, iteT ⟨_, rfl, ?_⟩⟩
  exact q _ _ _ h3 hT hF

theorem body_BadDay (T : Txt w K mg) {A : Around} {outer : List Env} {s : Shared} {H : Hp} {Q : VK} {p : Addr × Obj} {d : Addr} {v : V} {f : Addr} {cdv : Value} (hz : Zc (.ref (cBD K)) (some d) p.2) (hf : ∃ vs, p.2.data = .fields vs)
    (hd : H d = some (.xd [("day", v)])) (q : ∀ l t H', Same H H' → H' t = some (.tup [.str "BadDay", v]) → H' l = some (.lst [.ref t]) → Q (.ref l) H') :
    ∃ t, PSs (L2H.cxH CX0 P w K mg base ["error", "found"] "_law_b_told" (defScope s__law_b_told) f cdv A outer s H E0 p) (defBody s__law_b_told) t ∧ t { nx := fun _ H' => Q .non H', rt := Q } (L2.start ["error", "found"] [.ref p.1]) H := by
  refine ⟨_, (pss_cons (ps_set (i := 1) sc__law_b_told.nd rfl (by first | exact Or.inl rfl | exact Or.inr rfl) (pe_lst pa_nil))
      (pss_cons (ps_if (pt_val (pe_callB (call_isD (p := p) (D := cBD K) (d := d) List.mem_cons_self (xt_BadDay T).exc hz hf) rfl (n_isinstance T) (by decide +kernel) (pa_cons (pv 0) (pa_cons (pe_glob (v := .ref _) rfl (g_TooMany T) rfl) pa_nil)))) (pss_one (ps_expr (pe_bm PySem.F.plainAttrs_list PySem.F.slot_list_append PySem.F.type_list_append mt_append (pv 1) (pa_cons (pe_tup (pa_cons pe_str (pa_cons pe_noway pa_nil))) pa_nil)))) pss_nil)
      (pss_cons (ps_if (pt_val (pe_callB (call_isD (p := p) (D := cBD K) (d := d) List.mem_cons_self (xt_BadDay T).exc hz hf) rfl (n_isinstance T) (by decide +kernel) (pa_cons (pv 0) (pa_cons (pe_glob (v := .ref _) rfl (g_BadSky T) rfl) pa_nil)))) (pss_one (ps_expr (pe_bm PySem.F.plainAttrs_list PySem.F.slot_list_append PySem.F.type_list_append mt_append (pv 1) (pa_cons (pe_tup (pa_cons pe_str (pa_cons pe_noway pa_nil))) pa_nil)))) pss_nil)
      (pss_cons (ps_if (pt_val (pe_callB (call_isD (p := p) (D := cBD K) (d := d) List.mem_cons_self (xt_BadDay T).exc hz hf) rfl (n_isinstance T) (by decide +kernel) (pa_cons (pv 0) (pa_cons (pe_glob (v := .ref _) rfl (g_BadWeather T) rfl) pa_nil)))) (pss_one (ps_expr (pe_bm PySem.F.plainAttrs_list PySem.F.slot_list_append PySem.F.type_list_append mt_append (pv 1) (pa_cons (pe_tup (pa_cons pe_str (pa_cons (pe_xfG (p := p) (C := cBD K) List.mem_cons_self (xt_BadDay T).xf (xn_BadDay_day T) hz hf (pv 0)) pa_nil))) pa_nil)))) pss_nil)
      (pss_cons (ps_if (pt_val (pe_callB (call_isD (p := p) (D := cBD K) (d := d) List.mem_cons_self (xt_BadDay T).exc hz hf) rfl (n_isinstance T) (by decide +kernel) (pa_cons (pv 0) (pa_cons (pe_glob (v := .ref _) rfl (g_BadReport T) rfl) pa_nil)))) (pss_one (ps_expr (pe_bm PySem.F.plainAttrs_list PySem.F.slot_list_append PySem.F.type_list_append mt_append (pv 1) (pa_cons (pe_tup (pa_cons pe_str (pa_cons (pe_xfG (p := p) (C := cBD K) List.mem_cons_self (xt_BadDay T).xf (xn_BadDay_day T) hz hf (pv 0)) pa_nil))) pa_nil)))) pss_nil)
      (pss_cons (ps_if (pt_val (pe_callB (call_isD (p := p) (D := cBD K) (d := d) List.mem_cons_self (xt_BadDay T).exc hz hf) rfl (n_isinstance T) (by decide +kernel) (pa_cons (pv 0) (pa_cons (pe_glob (v := .ref _) rfl (g_BadGarden T) rfl) pa_nil)))) (pss_one (ps_expr (pe_bm PySem.F.plainAttrs_list PySem.F.slot_list_append PySem.F.type_list_append mt_append (pv 1) (pa_cons (pe_tup (pa_cons pe_str (pa_cons pe_noway pa_nil))) pa_nil)))) pss_nil)
      (pss_cons (ps_if (pt_val (pe_callB (call_isD (p := p) (D := cBD K) (d := d) List.mem_cons_self (xt_BadDay T).exc hz hf) rfl (n_isinstance T) (by decide +kernel) (pa_cons (pv 0) (pa_cons (pe_glob (v := .ref _) rfl (g_BadSetting T) rfl) pa_nil)))) (pss_one (ps_expr (pe_bm PySem.F.plainAttrs_list PySem.F.slot_list_append PySem.F.type_list_append mt_append (pv 1) (pa_cons (pe_tup (pa_cons pe_str (pa_cons pe_noway pa_nil))) pa_nil)))) pss_nil)
      (pss_cons (ps_if (pt_val (pe_callB (call_isD (p := p) (D := cBD K) (d := d) List.mem_cons_self (xt_BadDay T).exc hz hf) rfl (n_isinstance T) (by decide +kernel) (pa_cons (pv 0) (pa_cons (pe_glob (v := .ref _) rfl (g_BadHouse T) rfl) pa_nil)))) (pss_one (ps_expr (pe_bm PySem.F.plainAttrs_list PySem.F.slot_list_append PySem.F.type_list_append mt_append (pv 1) (pa_cons (pe_tup (pa_cons pe_str (pa_cons pe_noway pa_nil))) pa_nil)))) pss_nil)
      (pss_cons (ps_if (pt_val (pe_callB (call_isD (p := p) (D := cBD K) (d := d) List.mem_cons_self (xt_BadDay T).exc hz hf) rfl (n_isinstance T) (by decide +kernel) (pa_cons (pv 0) (pa_cons (pe_glob (v := .ref _) rfl (g_BadDay T) rfl) pa_nil)))) (pss_one (ps_expr (pe_bm PySem.F.plainAttrs_list PySem.F.slot_list_append PySem.F.type_list_append mt_append (pv 1) (pa_cons (pe_tup (pa_cons pe_str (pa_cons (pe_xfG (p := p) (C := cBD K) List.mem_cons_self (xt_BadDay T).xf (xn_BadDay_day T) hz hf (pv 0)) pa_nil))) pa_nil)))) pss_nil)
      (pss_cons (ps_if (pt_val (pe_callB (call_isD (p := p) (D := cBD K) (d := d) List.mem_cons_self (xt_BadDay T).exc hz hf) rfl (n_isinstance T) (by decide +kernel) (pa_cons (pv 0) (pa_cons (pe_glob (v := .ref _) rfl (g_BadText T) rfl) pa_nil)))) (pss_one (ps_expr (pe_bm PySem.F.plainAttrs_list PySem.F.slot_list_append PySem.F.type_list_append mt_append (pv 1) (pa_cons (pe_tup (pa_cons pe_str (pa_cons pe_noway pa_nil))) pa_nil)))) pss_nil)
      (pss_cons (ps_if (pt_val (pe_callB (call_isD (p := p) (D := cBD K) (d := d) List.mem_cons_self (xt_BadDay T).exc hz hf) rfl (n_isinstance T) (by decide +kernel) (pa_cons (pv 0) (pa_cons (pe_glob (v := .ref _) rfl (g_NotKept T) rfl) pa_nil)))) (pss_one (ps_expr (pe_bm PySem.F.plainAttrs_list PySem.F.slot_list_append PySem.F.type_list_append mt_append (pv 1) (pa_cons (pe_tup (pa_cons pe_str (pa_cons pe_noway (pa_cons (pe_xfG (p := p) (C := cBD K) List.mem_cons_self (xt_BadDay T).xf (xn_BadDay_day T) hz hf (pv 0)) pa_nil)))) pa_nil)))) pss_nil)
      (pss_cons (ps_if (pt_val (pe_callB (call_isD (p := p) (D := cBD K) (d := d) List.mem_cons_self (xt_BadDay T).exc hz hf) rfl (n_isinstance T) (by decide +kernel) (pa_cons (pv 0) (pa_cons (pe_glob (v := .ref _) rfl (g_Unsafe T) rfl) pa_nil)))) (pss_one (ps_expr (pe_bm PySem.F.plainAttrs_list PySem.F.slot_list_append PySem.F.type_list_append mt_append (pv 1) (pa_cons (pe_tup (pa_cons pe_str (pa_cons pe_noway (pa_cons (pe_xfG (p := p) (C := cBD K) List.mem_cons_self (xt_BadDay T).xf (xn_BadDay_day T) hz hf (pv 0)) pa_nil)))) pa_nil)))) pss_nil)
      (pss_cons (ps_if (pt_val (pe_callB (call_isDT (p := p) (D := cBD K) (d := d) List.mem_cons_self (xt_BadDay T).exc hz hf) rfl (n_isinstance T) (by decide +kernel) (pa_cons (pv 0) (pa_cons (pe_tup (pa_cons (pe_glob (v := .ref _) rfl (g_BadCalls T) rfl) (pa_cons (pe_glob (v := .ref _) rfl (g_BadOffers T) rfl) (pa_cons (pe_glob (v := .ref _) rfl (g_BadTable T) rfl) (pa_cons (pe_glob (v := .ref _) rfl (g_BadRow T) rfl) (pa_cons (pe_glob (v := .ref _) rfl (g_BadCalendar T) rfl) (pa_cons (pe_glob (v := .ref _) rfl (g_BadDeed T) rfl) pa_nil))))))) pa_nil)))) (pss_one (ps_expr (pe_bm PySem.F.plainAttrs_list PySem.F.slot_list_append PySem.F.type_list_append mt_append (pv 1) (pa_cons (pe_tup (pa_cons pe_str pa_nil)) pa_nil)))) pss_nil)
      (pss_one (ps_ret (pe_ifExp (pt_val (pe_callB (call_isD (p := p) (D := cBD K) (d := d) List.mem_cons_self (xt_BadDay T).exc hz hf) rfl (n_isinstance T) (by decide +kernel) (pa_cons (pv 0) (pa_cons (pe_bltn (v := .ty "ValueError") (u := .type "ValueError") rfl (n_ValueError T) (by decide +kernel) rfl) pa_nil)))) (pv 1) (pe_lst pa_nil))))))))))))))))), ?_⟩

  refine ⟨(by show 0 ≤ sizeLine; decide), fun a ha => ?_⟩
  obtain ⟨h0, hF⟩ := new2 (.lst []) ha
  refine ⟨_, rfl, _, _, false, _, rfl, (fun u e => e), h0 _ _ hd, xk_BadDay_TooMany T, _, rfl, iteF ?_⟩
  refine ⟨_, rfl, _, _, false, _, rfl, (fun u e => e), h0 _ _ hd, xk_BadDay_BadSky T, _, rfl, iteF ?_⟩
  refine ⟨_, rfl, _, _, false, _, rfl, (fun u e => e), h0 _ _ hd, xk_BadDay_BadWeather T, _, rfl, iteF ?_⟩
  refine ⟨_, rfl, _, _, false, _, rfl, (fun u e => e), h0 _ _ hd, xk_BadDay_BadReport T, _, rfl, iteF ?_⟩
  refine ⟨_, rfl, _, _, false, _, rfl, (fun u e => e), h0 _ _ hd, xk_BadDay_BadGarden T, _, rfl, iteF ?_⟩
  refine ⟨_, rfl, _, _, false, _, rfl, (fun u e => e), h0 _ _ hd, xk_BadDay_BadSetting T, _, rfl, iteF ?_⟩
  refine ⟨_, rfl, _, _, false, _, rfl, (fun u e => e), h0 _ _ hd, xk_BadDay_BadHouse T, _, rfl, iteF ?_⟩
  refine ⟨_, rfl, _, _, true, _, rfl, (fun u e => e), h0 _ _ hd, xk_BadDay_BadDay T, _, rfl, iteT ?_⟩
  refine ⟨_, rfl, .inl ⟨rfl, _, SqL.of hF⟩, _, rfl, rfl, rfl, d, _, v, rfl, h0 _ _ hd, rfl, (by show 2 ≤ sizeLine; decide), fun t ht => ?_⟩
  obtain ⟨hA, hT⟩ := new2 (.tup [.str "BadDay", v]) ht
  have hF := hA _ _ hF
  have h1 := h0.trans hA
  refine ⟨a, [], _, rfl, rfl, hF, (by show 0 < sizeLine; decide), ?_⟩
  obtain ⟨H2, eH, h2, hT, hF⟩ := app1 h1 ha hF hT
  rw [← eH]
  clear hA eH
  refine ⟨_, rfl, _, _, false, _, rfl, (fun u e => e), h2 _ _ hd, xk_BadDay_BadText T, _, rfl, iteF ?_⟩
  refine ⟨_, rfl, _, _, false, _, rfl, (fun u e => e), h2 _ _ hd, xk_BadDay_NotKept T, _, rfl, iteF ?_⟩
  refine ⟨_, rfl, _, _, false, _, rfl, (fun u e => e), h2 _ _ hd, xk_BadDay_Unsafe T, _, rfl, iteF ?_⟩
  refine ⟨_, rfl, (by show 6 ≤ sizeLine; decide), fun tp htp => ?_⟩
  obtain ⟨hA, hTp⟩ := new2 (.tup [V.ref (He.ga K "BadCalls"), V.ref (He.ga K "BadOffers"), V.ref (He.ga K "BadTable"), V.ref (He.ga K "BadRow"), V.ref (He.ga K "BadCalendar"), V.ref (He.ga K "BadDeed")]) htp
  have hT := hA _ _ hT
  have hF := hA _ _ hF
  have h3 := h2.trans hA
  refine ⟨tp, _, _, false, _, rfl, hTp, (.cons (.own _) (.cons (.own _) (.cons (.own _) (.cons (.own _) (.cons (.own _) (.cons (.own _) .nil)))))), h3 _ _ hd, (kany_f (xk_BadDay_BadCalls T) (kany_f (xk_BadDay_BadOffers T) (kany_f (xk_BadDay_BadTable T) (kany_f (xk_BadDay_BadRow T) (kany_f (xk_BadDay_BadCalendar T) (kany_f (xk_BadDay_BadDeed T) rfl)))))), _, rfl, iteF ?_⟩
  refine ⟨_, rfl, _, _, true, _, rfl, (fun u e => e), h3 _ _ hd, xv_BadDay T, _, rfl, iteT ⟨_, rfl, ?_⟩⟩
  exact q _ _ _ h3 hT hF

end
end K04
end
section
set_option maxRecDepth 100000
set_option maxHeartbeats 4000000
namespace K04
open PySem PySem.Spec PyProof.Rows L2
section
variable {P : Program} {w : World} {K : PySem.W.Frag} {mg : Str → Option Value} {base : Heap}
def ErrC (K : PySem.W.Frag) (C : Addr) (z fl : Str) : Prop := (C = cTM K ∧ z = "TooMany" ∧ fl = "what") ∨ (C = cBG K ∧ z = "BadGarden" ∧ fl = "row") ∨ (C = cBD K ∧ z = "BadDay" ∧ fl = "day")
def spErr (K : PySem.W.Frag) : SpE := fun a cls d vs H Q _ => ∃ (C : Addr) (z fl : Str) (d' : Addr) (v : V), ErrC K C z fl ∧ vs = [.ref a] ∧ cls = .ref C ∧ d = some d' ∧ H d' = some (.xd [(fl, v)]) ∧ ∀ l t H', Same H H' → H' t = some (.tup [.str z, v]) → H' l = some (.lst [.ref t]) → Q (.ref l) H'
theorem fe_error (T : Txt w K mg) : ∃ f fd, FnE P w K mg base 1 f fd ["error"] (spErr K) ∧ mg "_law_b_told" = some (.ref f) ∧ PySem.W.keepIn K (.ref f) = true ∧ Binds K fd ["error"] [] := by
  obtain ⟨f, fd, F, g⟩ := f__law_b_told T
  refine ⟨f, fd, ?_, g, F.kp, F.bindsN (fun _ _ _ _ _ _ us hl => match us, hl with | [_], _ => rfl)⟩
  obtain ⟨oc, od, dV, kV, doc, pm, an, cdv, ct, osl, rfl, lk, hcd, _, _⟩ := F.ex
  refine fnE_of (k := 0) lk hcd sc__law_b_told (fun a cls d vs H Q E h => ?_) (fun A outer s H vs Q p cls d hr hz hf h => ?_)
  · obtain ⟨C, z, fl, d', v, _, rfl, _⟩ := h
    rfl
  · obtain ⟨C, z, fl, d', v, hC, rfl, rfl, rfl, hd, q⟩ := h
    rcases hC with ⟨rfl, rfl, rfl⟩ | ⟨rfl, rfl, rfl⟩ | ⟨rfl, rfl, rfl⟩
    · exact body_TooMany T hz hf hd q
    · exact body_BadGarden T hz hf hd q
    · exact body_BadDay T hz hf hd q
def TTr (K : PySem.W.Frag) : (XK → Hp → VK → Prop) → (Hp → Prop) → V → Hp → VK → Prop := fun tl _ v2 H Q => ∃ (C : Addr) (z fl : Str) (v : V), ErrC K C z fl ∧ Leaf1 v ∧ (∃ t, v2 = .ref t ∧ H t = some (.tup [.str z, v])) ∧
  (∀ (H1 : Hp) (Q' : VK), Same H H1 → tl (fun cls d H' => cls = .ref C ∧ ∃ d', d = some d' ∧ Same H H' ∧ H' d' = some (.xd [(fl, v)])) H1 Q') ∧ ∀ H', Same H H' → Q (.bl true) H'
theorem ErrC.seen (T : Txt w K mg) {C : Addr} {z fl : Str} (h : ErrC K C z fl) : PySem.W.exmOne K (.ref C) (.ref (He.ga K "SeenError")) = some true := by
  rcases h with ⟨rfl, _⟩ | ⟨rfl, _⟩ | ⟨rfl, _⟩
  · exact xs_TooMany T
  · exact xs_BadGarden T
  · exact xs_BadDay T
theorem mt_told {H : Hp} {a b : Addr} {z : Str} {v : V} (hv : Leaf1 v) (ha : H a = some (.tup [.str z, v])) (hb : H b = some (.tup [.str z, v])) : Mt 1 H (.ref a) (.ref b) := by
  refine .inr ⟨a, b, _, _, rfl, rfl, .inr ⟨ha, hb⟩, rfl, (by show 2 ≤ 1000; decide), fun i x y hx hy => ?_⟩
  rcases i with _ | _ | i
  · cases hx; cases hy; exact .inr ⟨_, rfl, rfl⟩
  · cases hx; cases hy
    rcases hv with ⟨n, rfl⟩ | ⟨s, rfl⟩
    · exact .inl ⟨_, rfl, rfl⟩
    · exact .inr ⟨_, rfl, rfl⟩
  · cases hx
theorem mt_found {H : Hp} {a b t u : Addr} {z : Str} {v : V} (hv : Leaf1 v) (ht : H t = some (.tup [.str z, v])) (hu : H u = some (.tup [.str z, v])) (ha : H a = some (.lst [.ref t])) (hb : H b = some (.lst [.ref u])) : Mt 2 H (.ref a) (.ref b) := by
  refine .inr ⟨a, b, _, _, rfl, rfl, .inl ⟨ha, hb⟩, rfl, (by show 1 ≤ 1000; decide), fun i x y hx hy => ?_⟩
  rcases i with _ | i
  · cases hx; cases hy; exact mt_told hv ht hu
  · cases hx
theorem refused_gives {X : Cx} (T : Txt X.w X.K X.mg) (hrX : Room 9 X.A) {g : Addr} {cdg : Value} {q : Str} : LamX.Gives3 X ["call", "due", "found", "raised"] "_law_b_refused" (defScope s__law_b_refused) g cdg (defBody s__law_b_refused) "call" q (TTr X.K) := by
  intro f c' s H Q v2 tl hc hco h
  obtain ⟨C, z, fl, v, hC, hv, ⟨t, rfl, ht⟩, hl, k⟩ := h
  have hr := hrX.deeper (envOfC "_law_b_refused" (defScope s__law_b_refused) s.heap.objs.size g cdg)
  obtain ⟨fe, fde, FE, ge, ke, be⟩ := fe_error (P := X.prog) (base := X.base) T
  have ok__law_matches := fun (T : Txt X.w X.K X.mg) => ok_mt2 (P := X.prog) (base := X.base) T
  refine ⟨_, (pss_cons (ps_set (i := 2) sc__law_b_refused.nd rfl (by first | exact Or.inl rfl | exact Or.inr rfl) (pe_lst pa_nil))
      (pss_cons (L2.ps_try_as (ts := fun a cls d => tAsg (tCallE (spErr X.K a cls d) (tCons (tVar 3) tNil)) (gName 2)) (i := 3) (c := .ref (He.ga X.K "SeenError")) rfl rfl sc__law_b_refused.nd rfl rfl ⟨rfl, by decide, .inl (g_SeenError T)⟩ LamX.takes0 (fun W pn xe tk _ => pss_one (ps_expr (hc W pn xe (fun cls d H' => cls = .ref C ∧ ∃ d', d = some d' ∧ Same H H' ∧ H' d' = some (.xd [(fl, v)])) _ _ tk))) (fun a oe cls d pn hz hf => pss_one (ps_set (i := 2) sc__law_b_refused.nd rfl (by first | exact Or.inl rfl | exact Or.inr rfl) (pe_callE (X := Cx.suite (Cx.nox (cxOf C8.CX0 X.prog X.w X.K X.mg X.base ["call", "due", "found", "raised"] "_law_b_refused" (defScope s__law_b_refused) g cdg X.A X.stack s H C8.E0)) a ((a, oe) :: pn)) (x := "_law_b_told") (p := (a, oe)) FE (L2H.RoomH.mk (hr.mono (by decide : 1 ≤ 8)).dp (hr.mono (by decide : 1 ≤ 8)).un) List.mem_cons_self hz hf rfl ge ke be (pa_cons (pv 3) pa_nil)))))
      (pss_one (ps_ret (pe_ok (ok__law_matches T) (hr.mono (by first | decide | omega)) rfl pass0 (pa_cons (pv 2) (pa_cons (pe_lst (pa_cons (pv 1) pa_nil)) pa_nil))))))), ?_⟩
  refine ⟨(by show 0 ≤ sizeLine; decide), fun a ha => ?_⟩
  obtain ⟨s1, g1⟩ := new2 (.lst []) ha
  refine ⟨rfl, s1 _ _ hco, fun cls d H' ⟨e1, d', e2, s2, hd⟩ => ?_, hl _ _ s1⟩
  subst e1 e2
  refine ⟨true, hC.seen T, fun _ a ha => ⟨_, rfl, C, z, fl, d', v, hC, rfl, rfl, rfl, hd, fun l' t' H3 s3 ht' hl' => ?_⟩, fun z => by cases z⟩
  have e3 := s2.trans s3
  refine ⟨_, rfl, _, rfl, (by show 1 ≤ sizeLine; decide), fun m hm => ?_⟩
  obtain ⟨s4, g4⟩ := new2 (.lst [V.ref t]) hm
  exact ⟨_, _, rfl, mt_found hv (s4 _ _ ht') (s4 _ _ (e3 _ _ ht)) (s4 _ _ hl') g4, fun H4 s5 => k _ ((e3.trans s4).trans s5)⟩
end
end K04
end
section
set_option maxRecDepth 100000
set_option maxHeartbeats 4000000
namespace K04
open PySem PySem.Spec PyProof.Rows L2
/-- the tables of the defs that make lambdas, the names of what they hold -/
def Tl (K : PySem.W.Frag) : List (Addr × Str) := tf.map fun p => ((He.cT K p).2, p.1 ++ (".<locals>.<lambda>" : Str))
theorem tl_one {w : World} {K : PySem.W.Frag} {mg : Str → Option Value} (T : Txt w K mg) {P : Addr} {q : Str} (h : (P, q) ∈ Tl K) : ∀ p ∈ Tl K, p.1 = P → p.2 = q := by
  have hn := tabs_nodup T
  have e : tf.map (fun p => (He.cT K p).2) = (Tl K).map (·.1) := by unfold Tl; rw [List.map_map]; rfl
  rw [e] at hn
  intro p hp e1
  have : ∀ (l : List (Addr × Str)), (l.map (·.1)).Nodup → ∀ a ∈ l, ∀ b ∈ l, a.1 = b.1 → a = b := by
    intro l
    induction l with
    | nil => intro _ a ha; cases ha
    | cons c r ih =>
      intro hn a ha b hb hab
      rw [List.map_cons, List.nodup_cons] at hn
      rcases List.mem_cons.mp ha with ea | ha
      · rcases List.mem_cons.mp hb with eb | hb
        · rw [ea, eb]
        · exact absurd (List.mem_map.mpr ⟨b, hb, by rw [← hab, ea]⟩) hn.1
      · rcases List.mem_cons.mp hb with eb | hb
        · exact absurd (List.mem_map.mpr ⟨a, ha, by rw [hab, eb]⟩) hn.1
        · exact ih hn.2 a ha b hb hab
  rw [this _ hn p hp (P, q) h e1]
abbrev TabsB (K : PySem.W.Frag) (base : Heap) (mg : Str → Option Value) : Prop := ∀ p ∈ tf, LamX.TabB base mg (He.cT K p).1 (He.cT K p).2
section
variable {X : Cx} {cc P : Addr} {params : Arguments} {body : Expr} {scope : Scope} {t : XK → TE} {p lpos pos : Pos} {e2 : Expr} {te : TE}
theorem pe_refused (T : Txt X.w X.K X.mg) (hr : Room 10 X.A) (hg : Gl X "_law_b_refused") (TB : LamX.TabB X.base X.mg cc P) (hcode : X.env.code = .ref cc) (hmT : (P, X.env.qual ++ "<lambda>") ∈ Tl X.K) (L : LamX.LamS X.env.scope scope) (hdef : defaultsOf params X.env = ([], []))
    (hbind : ∀ (q : Str) (cl : List (Str × Addr)) (pm cv ctv : Value), bindArgs (PySem.W.kla_fn "<lambda>" q params body scope cl pm cv ctv) ⟨[], []⟩ = pure [])
    (hbody : ∀ (A : Around) (outer : List Env) (s : Shared) (H : Hp) (E : XK) (f c' : Addr), Room 8 (A.deeper (LamX.lamEnv X scope s.heap.objs.size f c')) → PE (LamX.lamCx X A outer s H E scope f c') body (t E))
    (he2 : PA X [e2] (tCons te tNil))
    (hs : starEach [.Lambda params body scope lpos, e2] X.env = (false, eval (.Lambda params body scope lpos) X.env) :: starEach [e2] X.env := by rfl) (hpl : (backTo pos (starEach [e2] X.env)).any (·.1) = false := by rfl) :
    PE X (.Call (.Name "_law_b_refused" p) [.Lambda params body scope lpos, e2] [] pos) (LamX.tLam2 (Tl X.K) (X.env.qual ++ "<lambda>") (TTr X.K) t te) := by
  obtain ⟨f, fd, F, g⟩ := f__law_b_refused T
  have B : L2.Binds X.K fd ["call", "due"] [] := F.bindsN (fun _ _ _ _ _ _ us hl => match us, hl with | [_, _], _ => rfl)
  obtain ⟨oc, od, dV, kV, doc, pm, an, cdv, ct, osl, rfl, lk, hcd, _, _⟩ := F.ex
  exact LamX.pe_lamcall3 (k := 8) hg g F.kp lk hcd B sc__law_b_refused rfl (by first | exact Or.inl rfl | exact Or.inr (Or.inl rfl) | exact Or.inr rfl) (refused_gives T (hr.mono (by decide))) TB hcode hmT (tl_one T hmT) hr L hdef hbind hbody he2 (by decide) (by decide) (by decide) hs hpl
end
section
variable {P : Program} {w : World} {K : PySem.W.Frag} {mg : Str → Option Value} {base : Heap}
theorem ref_step {q z fl : Str} {t : XK → TE} {tv : TE} {σ : L2.St} {H : Hp} {Q : VK} {C : Addr} (v : V) (hT : LamX.Tabs (Tl K) H) (hC : ErrC K C z fl) (hv : Leaf1 v) (htv : ∀ H1 Q, LamX.ExtN H H1 → Q v H1 → tv σ H1 Q)
    (hl : ∀ H2 H3 Q', LamX.ExtN H H2 → Same H2 H3 → t (Er C fl v H2) σ H3 Q') (k : ∀ H', LamX.ExtN H H' → LamX.Tabs (Tl K) H' → Q (.bl true) H') : LamX.tLam2 (Tl K) q (TTr K) t (tTup (tCons (tC (.str z)) (tCons tv tNil))) σ H Q := by
  refine ⟨hT, fun H1 c' e1 T1 hc => ?_⟩
  refine htv H1 _ e1 ⟨(by show 2 ≤ sizeLine; decide), fun p hp => ?_⟩
  obtain ⟨s2, hp2⟩ := new2 (.tup [.str z, v]) hp
  refine ⟨.ref p, rfl, s2 _ _ hc, C, z, fl, v, hC, hv, ⟨p, rfl, hp2⟩, fun H3 Q' s3 => hl _ _ _ (e1.trans (ext_of s2)) s3, fun H3 s3 => k _ ((e1.trans (ext_of s2)).trans (ext_of s3)) ((T1.ext s2).ext s3)⟩
end
end K04
end
section
set_option maxRecDepth 100000
set_option maxHeartbeats 4000000
namespace K04
open PySem PySem.Spec PyProof.Rows L2
theorem gnE {i : Nat} {x : V} {σ : L2.St} {H : Hp} {Q : L2.St → Hp → Prop} (h : Q (σ.set i (some x)) H) : gName i x σ H Q := h
theorem ext_ins {H H' : Hp} {a C dx : Addr} {fs : List (Str × V)} (e : LamX.ExtN H H') (h : H a = some (.ins C dx fs)) : H' a = some (.ins C dx fs) := e _ _ h fun _ z => by cases z
theorem PairT.ext {H H' : Hp} (e : LamX.ExtN H H') {x : V} {c : Int × Int} (h : PairT H x c) : PairT H' x c := by
  obtain ⟨t, rfl, h⟩ := h
  exact ⟨t, rfl, ext_tup e h⟩
theorem GardenAt.ext {K : PySem.W.Frag} {H H' : Hp} {p : Addr} {d : Int} {ws : List (Int × Int)} (e : LamX.ExtN H H') (h : GardenAt K H p d ws) : GardenAt K H' p d ws := by
  obtain ⟨dx, l, xs, h1, h2, h3⟩ := h
  exact ⟨dx, l, xs, ext_ins e h1, ext_lst e h2, Paired.mapP h3 fun _ _ z => PairT.ext e z⟩
section
variable {P : Program} {w : World} {K : PySem.W.Frag} {mg : Str → Option Value} {base : Heap}
def spDays (K : PySem.W.Frag) : Sp := fun vs H Q _ => ∃ d ws gp, vs = [.int d, .ref gp] ∧ GardenAt K H gp d ws ∧ 1 ≤ d ∧ d ≤ 24 ∧ ws.length ≤ 120 ∧ (∀ c ∈ ws, VW d c) ∧ LamX.Tabs (Tl K) H ∧ ∀ H', LamX.ExtN H H' → LamX.Tabs (Tl K) H' → Q (.bl true) H'
theorem ok__law_k04_days (T : Txt w K mg) (TB : TabsB K base mg) : Ok P w K mg base CX0 11 "_law_k04_days" ["days", "garden"] (spDays K) := by
  refine Ok.defC (fl__law_k04_days T) (fun _ _ _ _ _ _ us hl => match us, hl with | [_, _], _ => rfl) sc__law_k04_days (fun vs H Q E h => ?_) (fun f A outer s H vs Q E hr h => ?_)
  · obtain ⟨d, ws, gp, rfl, _⟩ := h
    rfl
  · obtain ⟨d, ws, gp, rfl, hG, d1, d2, hl, hV, hT, k⟩ := h
    refine ⟨_, (pss_cons (ps_set (i := 2) sc__law_k04_days.nd rfl (by first | exact Or.inl rfl | exact Or.inr rfl) (pe_op op_add (pv 0) pe_int))
      (pss_cons (ps_if (pt_not (pt_val (pe_refused (cc := (He.cT K ("_law_k04_days", none)).1) (P := (He.cT K ("_law_k04_days", none)).2) T (hr.mono (by decide)) rfl (TB _ (List.mem_of_getElem? (i := 0) rfl)) rfl (List.mem_of_getElem? (i := 0) rfl) (LamX.lamS_by (by kernel_rfl)) rfl (fun _ _ _ _ _ => rfl) (fun A outer s H E f c' hr => (pe_okM (okm_Garden_inside T) (cl_Garden T) (pv 1) (hr.mono (by first | decide | omega)) (passes_call (takes_of rfl rfl rfl rfl) (fun _ _ _ _ h => h)) (pa_cons (pe_un un_neg pe_int) (pa_cons pe_int pa_nil)))) (pa_cons (pe_tup (pa_cons pe_str (pa_cons (pe_un un_neg pe_int) pa_nil))) pa_nil)))) (pss_one (ps_ret pe_bl)) pss_nil)
      (pss_cons (ps_if (pt_not (pt_val (pe_refused (cc := (He.cT K ("_law_k04_days", none)).1) (P := (He.cT K ("_law_k04_days", none)).2) T (hr.mono (by decide)) rfl (TB _ (List.mem_of_getElem? (i := 0) rfl)) rfl (List.mem_of_getElem? (i := 0) rfl) (LamX.lamS_by (by kernel_rfl)) rfl (fun _ _ _ _ _ => rfl) (fun A outer s H E f c' hr => (pe_okM (okm_Garden_inside T) (cl_Garden T) (pv 1) (hr.mono (by first | decide | omega)) (passes_call (takes_of rfl rfl rfl rfl) (fun _ _ _ _ h => h)) (pa_cons pe_int (pa_cons (pv 2) pa_nil)))) (pa_cons (pe_tup (pa_cons pe_str (pa_cons (pv 2) pa_nil))) pa_nil)))) (pss_one (ps_ret pe_bl)) pss_nil)
      (pss_cons (ps_if (pt_not (pt_val (pe_refused (cc := (He.cT K ("_law_k04_days", none)).1) (P := (He.cT K ("_law_k04_days", none)).2) T (hr.mono (by decide)) rfl (TB _ (List.mem_of_getElem? (i := 0) rfl)) rfl (List.mem_of_getElem? (i := 0) rfl) (LamX.lamS_by (by kernel_rfl)) rfl (fun _ _ _ _ _ => rfl) (fun A outer s H E f c' hr => (pe_okM (okm_Garden_inside T) (cl_Garden T) (pv 1) (hr.mono (by first | decide | omega)) (passes_call (takes_of rfl rfl rfl rfl) (fun _ _ _ _ h => h)) (pa_cons (pv 2) (pa_cons (pe_un un_neg pe_int) pa_nil)))) (pa_cons (pe_tup (pa_cons pe_str (pa_cons (pv 2) pa_nil))) pa_nil)))) (pss_one (ps_ret pe_bl)) pss_nil)
      (pss_cons (ps_if (pt_not (pt_val (pe_refused (cc := (He.cT K ("_law_k04_days", none)).1) (P := (He.cT K ("_law_k04_days", none)).2) T (hr.mono (by decide)) rfl (TB _ (List.mem_of_getElem? (i := 0) rfl)) rfl (List.mem_of_getElem? (i := 0) rfl) (LamX.lamS_by (by kernel_rfl)) rfl (fun _ _ _ _ _ => rfl) (fun A outer s H E f c' hr => (pe_okM (okm_Garden_inside T) (cl_Garden T) (pv 1) (hr.mono (by first | decide | omega)) (passes_call (takes_of rfl rfl rfl rfl) (fun _ _ _ _ h => h)) (pa_cons (pv 0) (pa_cons (pe_op op_sub (pv 0) pe_int) pa_nil)))) (pa_cons (pe_tup (pa_cons pe_str (pa_cons (pe_op op_sub (pv 0) pe_int) pa_nil))) pa_nil)))) (pss_one (ps_ret pe_bl)) pss_nil)
      (pss_cons (ps_for PassesOwn.never rfl (pi_listK (K := K) rfl (pe_lst (pa_cons pe_int (pa_cons (pv 2) (pa_cons (pe_un un_neg pe_int) pa_nil))))) (pg_name (i := 3) sc__law_k04_days.nd rfl (by first | exact Or.inl rfl | exact Or.inr rfl))
        (pss_cons (ps_if (pt_not (pt_val (pe_refused (cc := (He.cT K ("_law_k04_days", none)).1) (P := (He.cT K ("_law_k04_days", none)).2) T (hr.mono (by decide)) rfl (TB _ (List.mem_of_getElem? (i := 0) rfl)) rfl (List.mem_of_getElem? (i := 0) rfl) (LamX.lamS_by (by kernel_rfl)) rfl (fun _ _ _ _ _ => rfl) (fun A outer s H E f c' hr => (pe_okM (okm_Garden_open_on T) (cl_Garden T) (pv 1) (hr.mono (by first | decide | omega)) (passes_call (takes_of rfl rfl rfl rfl) (fun _ _ _ _ h => h)) (pa_cons (pv 3) pa_nil))) (pa_cons (pe_tup (pa_cons pe_str (pa_cons (pv 3) pa_nil))) pa_nil)))) (pss_one (ps_ret pe_bl)) pss_nil)
      (pss_cons (ps_if (pt_not (pt_val (pe_refused (cc := (He.cT K ("_law_k04_days", none)).1) (P := (He.cT K ("_law_k04_days", none)).2) T (hr.mono (by decide)) rfl (TB _ (List.mem_of_getElem? (i := 0) rfl)) rfl (List.mem_of_getElem? (i := 0) rfl) (LamX.lamS_by (by kernel_rfl)) rfl (fun _ _ _ _ _ => rfl) (fun A outer s H E f c' hr => (pe_okM (okm_Garden_serve T) (cl_Garden T) (pv 1) (hr.mono (by first | decide | omega)) (passes_call (takes_of rfl rfl rfl rfl) (fun _ _ _ _ h => h)) (pa_cons pe_dnewK (pa_cons (pv 3) (pa_cons pe_int pa_nil))))) (pa_cons (pe_tup (pa_cons pe_str (pa_cons (pv 3) pa_nil))) pa_nil)))) (pss_one (ps_ret pe_bl)) pss_nil)
      (pss_one (ps_if (pt_not (pt_val (pe_refused (cc := (He.cT K ("_law_k04_days", none)).1) (P := (He.cT K ("_law_k04_days", none)).2) T (hr.mono (by decide)) rfl (TB _ (List.mem_of_getElem? (i := 0) rfl)) rfl (List.mem_of_getElem? (i := 0) rfl) (LamX.lamS_by (by kernel_rfl)) rfl (fun _ _ _ _ _ => rfl) (fun A outer s H E f c' hr => (pe_okM (okm_Garden_cut T) (cl_Garden T) (pv 1) (hr.mono (by first | decide | omega)) (passes_call (takes_of rfl rfl rfl rfl) (fun _ _ _ _ h => h)) (pa_cons (pv 3) pa_nil))) (pa_cons (pe_tup (pa_cons pe_str (pa_cons (pv 3) pa_nil))) pa_nil)))) (pss_one (ps_ret pe_bl)) pss_nil)))))
      (pss_one (ps_ret pe_bl)))))))), ?_⟩
    have eBD : ErrC K (cBD K) "BadDay" "day" := .inr (.inr ⟨rfl, rfl, rfl⟩)
    have s1 : badS d (-1) 0 = some (-1) := by
      unfold badS
      repeat' split
      all_goals first | rfl | omega
    have s2 : badS d 0 (d + 1) = some (d + 1) := by
      unfold badS
      repeat' split
      all_goals first | rfl | omega
    have s3 : badS d (d + 1) (-1) = some (d + 1) := by
      unfold badS
      repeat' split
      all_goals first | rfl | omega
    have s4 : badS d d (d - 1) = some (d - 1) := by
      unfold badS
      repeat' split
      all_goals first | rfl | omega
    obtain ⟨dx, lg, xg, i1, i2, i3⟩ := id hG
    refine ⟨_, rfl, _, _, rfl, rfl, ?_⟩
    refine ref_step (fl := "day") (.int (-1)) hT eBD (.inl ⟨_, rfl⟩) (fun H1 Q _ q => ⟨_, rfl, q⟩) (fun H2 H3 Q' e2 q2 => ?_) (fun H6 e6 T6 => ⟨_, rfl, iteF ?_⟩)
    · have e3 := e2.trans (ext_of q2)
      exact ⟨_, rfl, gp, dx, _, rfl, ext_ins e3 i1, gf_no (by decide +kernel) (by decide +kernel), _, rfl, gp, d, ws, _, _, rfl, hG.ext e3, by omega, (fun x hx => by rw [s1] at hx; cases hx; exact rz_er q2), fun z => by rw [s1] at z; cases z⟩
    refine ref_step (fl := "day") (.int (d + 1)) T6 eBD (.inl ⟨_, rfl⟩) (fun H1 Q _ q => ⟨_, rfl, q⟩) (fun H2 H3 Q' e2 q2 => ?_) (fun H7 e7 T7 => ⟨_, rfl, iteF ?_⟩)
    · have e3 := e6.trans (e2.trans (ext_of q2))
      exact ⟨_, rfl, gp, dx, _, rfl, ext_ins e3 i1, gf_no (by decide +kernel) (by decide +kernel), _, rfl, gp, d, ws, _, _, rfl, hG.ext e3, by omega, (fun x hx => by rw [s2] at hx; cases hx; exact rz_er q2), fun z => by rw [s2] at z; cases z⟩
    have e7 := e6.trans e7
    refine ref_step (fl := "day") (.int (d + 1)) T7 eBD (.inl ⟨_, rfl⟩) (fun H1 Q _ q => ⟨_, rfl, q⟩) (fun H2 H3 Q' e2 q2 => ?_) (fun H8 e8 T8 => ⟨_, rfl, iteF ?_⟩)
    · have e3 := e7.trans (e2.trans (ext_of q2))
      exact ⟨_, rfl, gp, dx, _, rfl, ext_ins e3 i1, gf_no (by decide +kernel) (by decide +kernel), _, rfl, _, rfl, gp, d, ws, _, _, rfl, hG.ext e3, by omega, (fun x hx => by rw [s3] at hx; cases hx; exact rz_er q2), fun z => by rw [s3] at z; cases z⟩
    have e8 := e7.trans e8
    refine ref_step (fl := "day") (.int (d - 1)) T8 eBD (.inl ⟨_, rfl⟩) (fun H1 Q _ q => ⟨_, rfl, _, _, rfl, rfl, q⟩) (fun H2 H3 Q' e2 q2 => ?_) (fun H9 e9 T9 => ⟨_, rfl, iteF ?_⟩)
    · have e3 := e8.trans (e2.trans (ext_of q2))
      exact ⟨_, rfl, gp, dx, _, rfl, ext_ins e3 i1, gf_no (by decide +kernel) (by decide +kernel), _, rfl, _, rfl, _, _, rfl, rfl, gp, d, ws, _, _, rfl, hG.ext e3, by omega, (fun x hx => by rw [s4] at hx; cases hx; exact rz_er q2), fun z => by rw [s4] at z; cases z⟩
    have e9 := e8.trans e9
    refine ⟨_, rfl, _, rfl, (by show 3 ≤ sizeLine; decide), fun ll hll => ?_⟩
    obtain ⟨q1, g1⟩ := new2 (.lst [V.int 0, V.int (d + 1), V.int (-3)]) hll
    have T10 := T9.ext q1
    have e10 := e9.trans (ext_of q1)
    generalize upd H9 ll (.lst [V.int 0, V.int (d + 1), V.int (-3)]) = H10 at q1 g1 T10 e10 ⊢
    refine ⟨ll, rfl, ⟨_, SqL.of g1⟩, for_list (K := K) (a := ll) (xs := [V.int 0, V.int (d + 1), V.int (-3)]) (fun j σ H' => ∃ v3, σ = [some (.int d), some (.ref gp), some (.int (d + 1)), v3] ∧ LamX.ExtN H10 H' ∧ LamX.Tabs (Tl K) H') ⟨_, rfl, fun _ _ h _ => h, T10⟩ (fun _ _ _ _ ⟨_, _, z, _⟩ => SqL.of (ext_lst z g1)) ?_ ?_⟩
    · rintro j x σ H' hx ⟨v3, rfl, e, Ta⟩
      have e11 := e10.trans e
      obtain ⟨n, rfl, hn⟩ : ∃ n : Int, x = .int n ∧ ¬ (1 ≤ n ∧ n ≤ d) := by
        rcases j with _ | _ | _ | j
        · cases hx; exact ⟨0, rfl, by omega⟩
        · cases hx; exact ⟨d + 1, rfl, by omega⟩
        · cases hx; exact ⟨-3, rfl, by omega⟩
        · cases hx
      have hV24 : ∀ c ∈ ws, VW 24 c := fun c hc => by
        have := hV c hc
        unfold VW at this ⊢
        omega
      refine gnE ?_
      refine ref_step (fl := "day") (.int n) Ta eBD (.inl ⟨_, rfl⟩) (fun H1 Q _ q => ⟨_, rfl, q⟩) (fun H2 H3 Q' e2 q2 => ?_) (fun H12 e12 T12 => ⟨_, rfl, iteF ?_⟩)
      · have e3 := e11.trans (e2.trans (ext_of q2))
        exact ⟨_, rfl, gp, dx, _, rfl, ext_ins e3 i1, gf_no (by decide +kernel) (by decide +kernel), _, rfl, gp, d, ws, _, rfl, hG.ext e3, by omega, (fun _ => rz_er q2), fun z1 z2 => absurd ⟨z1, z2⟩ hn⟩
      have e12' := e11.trans e12
      refine ref_step (fl := "day") (.int n) T12 eBD (.inl ⟨_, rfl⟩) (fun H1 Q _ q => ⟨_, rfl, q⟩) (fun H2 H3 Q' e2 q2 => ?_) (fun H13 e13 T13 => ⟨_, rfl, iteF ?_⟩)
      · have e3 := e12'.trans (e2.trans (ext_of q2))
        refine ⟨_, rfl, gp, dx, _, rfl, ext_ins e3 i1, gf_no (by decide +kernel) (by decide +kernel), fun wp hwp => ?_⟩
        obtain ⟨s5, g5⟩ := new2 (.dK []) hwp
        exact ⟨_, rfl, gp, d, ws, _, wp, [], _, rfl, (hG.ext e3).same s5, by omega, hV24, g5, (fun _ H' sH => rz_er ((q2.trans s5).trans sH)), fun z1 z2 => absurd ⟨z1, z2⟩ hn⟩
      have e13' := e12'.trans e13
      refine ref_step (fl := "day") (.int n) T13 eBD (.inl ⟨_, rfl⟩) (fun H1 Q _ q => ⟨_, rfl, q⟩) (fun H2 H3 Q' e2 q2 => ?_) (fun H14 e14 T14 => ⟨_, rfl, iteF ?_⟩)
      · have e3 := e13'.trans (e2.trans (ext_of q2))
        exact ⟨_, rfl, gp, dx, _, rfl, ext_ins e3 i1, gf_no (by decide +kernel) (by decide +kernel), _, rfl, gp, d, ws, _, rfl, hG.ext e3, d2, by omega, hV, (fun _ => rz_er q2), fun z1 z2 => absurd ⟨z1, z2⟩ hn⟩
      exact ⟨_, rfl, e.trans ((e12.trans e13).trans e14), T14⟩
    · rintro σ H' ⟨v3, rfl, e, Ta⟩
      exact k _ (e10.trans e) Ta
end
end K04
end
section
set_option maxRecDepth 100000
set_option maxHeartbeats 4000000
namespace K04
open PySem PySem.Spec PyProof.Rows L2
theorem st_blk {t1 t2 : TS} {D : Ends} {σ : L2.St} {H : Hp} (PV : L2.St → Hp → Prop) (h : ∀ N : L2.St → Hp → Prop, (∀ σ' H', PV σ' H' → N σ' H') → t1 { D with nx := N } σ H) (q : ∀ σ' H', PV σ' H' → t2 D σ' H') : tSeq t1 t2 D σ H := h _ q
/-- what making a garden of these raises -/
def GDue (K : PySem.W.Frag) (d : Int) (ws : List (Int × Int)) (C : Addr) (fl : Str) (v : V) : Prop :=
  (24 < d ∧ C = cTM K ∧ fl = "what" ∧ v = .str "days") ∨ (d ≤ 24 ∧ 120 < ws.length ∧ C = cTM K ∧ fl = "what" ∧ v = .str "seeds") ∨ (d < 1 ∧ ws.length ≤ 120 ∧ C = cBG K ∧ fl = "row" ∧ v = .int 0) ∨
  (1 ≤ d ∧ d ≤ 24 ∧ ws.length ≤ 120 ∧ fbadW d 1 ws ≠ 0 ∧ C = cBG K ∧ fl = "row" ∧ v = .int (fbadW d 1 ws))
theorem GDue.err {K : PySem.W.Frag} {d : Int} {ws : List (Int × Int)} {C : Addr} {fl : Str} {v : V} {H H1 : Hp} (h : GDue K d ws C fl v) (e : Same H H1) : GErr K (Er C fl v H) H1 d ws := by
  refine ⟨fun h1 => ?_, fun h1 h2 => ?_, fun h1 h2 => ?_, fun h1 h2 h3 h4 => ?_⟩
  all_goals
    rcases h with ⟨a1, rfl, rfl, rfl⟩ | ⟨a1, a2, rfl, rfl, rfl⟩ | ⟨a1, a2, rfl, rfl, rfl⟩ | ⟨a1, a2, a3, a4, rfl, rfl, rfl⟩
    all_goals first | exact rz_er e | (exfalso; omega)
theorem GDue.no {K : PySem.W.Frag} {d : Int} {ws : List (Int × Int)} {C : Addr} {fl : Str} {v : V} (h : GDue K d ws C fl v) (h1 : 1 ≤ d) (h2 : d ≤ 24) (h3 : ws.length ≤ 120) (h4 : fbadW d 1 ws = 0) : False := by
  rcases h with ⟨a1, _⟩ | ⟨a1, a2, _⟩ | ⟨a1, a2, _⟩ | ⟨a1, a2, a3, a4, _⟩
  · omega
  · omega
  · omega
  · exact a4 h4
theorem Stk.ext {H H' : Hp} {sa : Addr} (h : Stk H sa) (e : LamX.ExtN H H') : Stk H' sa := by
  obtain ⟨x, y, z, h⟩ := h
  exact ⟨x, y, z, ext_lst e h⟩
theorem paired_ext {H H' : Hp} (e : LamX.ExtN H H') {xs : List V} {ws : List (Int × Int)} (h : Paired (PairT H) xs ws) : Paired (PairT H') xs ws := Paired.mapP h fun _ _ z => PairT.ext e z
theorem paired_same {H H' : Hp} (e : Same H H') {xs : List V} {ws : List (Int × Int)} (h : Paired (PairT H) xs ws) : Paired (PairT H') xs ws := Paired.mapP h fun _ _ z => z.same e
/-- the making, with any way to go on -/
theorem made2 {K : PySem.W.Frag} {E : XK} {Q : Addr → Hp → Prop} {H : Hp} {s : Addr} {ys : List V} {ws : List (Int × Int)} {d : Int} (hS : H s = some (.lst ys)) (hP : Paired (PairT H) ys ws) (hl : ys.length ≤ 1000) (g : GErr K E H d ws)
    (k : 1 ≤ d → d ≤ 24 → ws.length ≤ 120 → fbadW d 1 ws = 0 → ∀ x H', H x = none → Same H H' → GardenN K H H' x d ws → Q x H') :
    ∀ x dx, H x = none → H dx = none → dx ≠ x → spGInit K (.ref x :: ([.int d, .ref s] ++ [])) (upd (upd H dx (.own x)) x (.ins (cG K) dx [])) (fun v H2 => v = .non ∧ Q x H2) E := by
  intro x dx
  have := made (Q := fun v H' => ∀ y, v = .ref y → Q y H') hS hP hl g (fun h1 h2 h3 h4 x H' hx s hg y e => by cases e; exact k h1 h2 h3 h4 x H' hx s hg) x dx
  intro h1 h2 h3
  have r := this h1 h2 h3
  obtain ⟨p, dx', d', s', ys', ws', e1, e2, e3, e4, e5, e6, e7, e8, e9, e10⟩ := r
  exact ⟨p, dx', d', s', ys', ws', e1, e2, e3, e4, e5, e6, e7, e8, e9, fun a b c d H' b' g' => ⟨(e10 a b c d H' b' g').1, (e10 a b c d H' b' g').2 x rfl⟩⟩
/-- making a garden that is refused -/
theorem madeR {K : PySem.W.Frag} {C : Addr} {fl : Str} {v : V} {Q : VK} {H H0 : Hp} {s : Addr} {ys : List V} {ws : List (Int × Int)} {d : Int} (hS : H s = some (.lst ys)) (hP : Paired (PairT H) ys ws) (hl : ws.length ≤ 1000) (g : GDue K d ws C fl v) (e : Same H0 H) :
    ∀ x dx, H x = none → H dx = none → dx ≠ x → spGInit K (.ref x :: ([.int d, .ref s] ++ [])) (upd (upd H dx (.own x)) x (.ins (cG K) dx [])) (fun v H2 => v = .non ∧ Q (.ref x) H2) (Er C fl v H0) :=
  made hS hP (by rw [Paired.length hP]; exact hl) (g.err e) fun h1 h2 h3 h4 => (g.no h1 h2 h3 h4).elim
section
variable {P : Program} {w : World} {K : PySem.W.Frag} {mg : Str → Option Value} {base : Heap}
def spRefs (K : PySem.W.Frag) : Sp := fun vs H Q _ => ∃ sa d l xs ws gp, vs = [.ref sa, .int d, .ref l, .ref gp] ∧ H l = some (.lst xs) ∧ Paired (PairT H) xs ws ∧ GardenAt K H gp d ws ∧ 1 ≤ d ∧ d ≤ 24 ∧ ws.length ≤ 120 ∧ (∀ c ∈ ws, VW d c) ∧ l ≠ sa ∧ Stk H sa ∧ LamX.Tabs (Tl K) H ∧ ∀ H', Bx sa H H' → Stk H' sa → LamX.Tabs (Tl K) H' → Q (.bl true) H'
theorem ok__law_k04_refusals (T : Txt w K mg) (TB : TabsB K base mg) : Ok P w K mg base CX0 11 "_law_k04_refusals" ["stock", "days", "windows", "garden"] (spRefs K) := by
  refine Ok.defC (fl__law_k04_refusals T) (fun _ _ _ _ _ _ us hl => match us, hl with | [_, _, _, _], _ => rfl) sc__law_k04_refusals (fun vs H Q E h => ?_) (fun f A outer s H vs Q E hr h => ?_)
  · obtain ⟨sa, d, l, xs, ws, gp, rfl, _⟩ := h
    rfl
  · obtain ⟨sa, d, l, xs, ws, gp, rfl, h2, h3, hG, d1, d2, hl, hV, hne, hst, hT, k⟩ := h
    have ok__law_matches := fun (T : Txt w K mg) => ok_mt2 (P := P) (base := base) T
    refine ⟨_, (pss_cons (ps_set (i := 4) sc__law_k04_refusals.nd rfl (by first | exact Or.inl rfl | exact Or.inr rfl) (pe_ok (ok__law_draw T) (hr.mono (by first | decide | omega)) rfl pass0 (pa_cons (pv 0) (pa_cons (pe_op op_add (pe_callB (len_seqK (K := K) rfl) rfl (n_len T) (by decide +kernel) (pa_cons (pv 2) pa_nil)) pe_int) pa_nil))))
      (pss_cons (ps_set (i := 5) sc__law_k04_refusals.nd rfl (by first | exact Or.inl rfl | exact Or.inr rfl) (pe_ok (ok__law_k04_wrong T) (hr.mono (by first | decide | omega)) rfl pass0 (pa_cons (pv 0) (pa_cons (pv 1) pa_nil))))
      (pss_cons (ps_set (i := 6) sc__law_k04_refusals.nd rfl (by first | exact Or.inl rfl | exact Or.inr rfl) (pe_ok (ok__law_k04_wrong T) (hr.mono (by first | decide | omega)) rfl pass0 (pa_cons (pv 0) (pa_cons (pv 1) pa_nil))))
      (pss_cons (ps_set (i := 7) sc__law_k04_refusals.nd rfl (by first | exact Or.inl rfl | exact Or.inr rfl) (pe_op op_cat (pe_op op_cat (pe_slice (sl_listK (K := K) rfl) (pv 2) po_none (po_some (pv 4))) (pe_lst (pa_cons (pv 5) pa_nil))) (pe_slice (sl_listK (K := K) rfl) (pv 2) (po_some (pv 4)) po_none)))
      (pss_cons (ps_if (pt_cmpR op_lt (pe_callB (len_seqK (K := K) rfl) rfl (n_len T) (by decide +kernel) (pa_cons (pv 2) pa_nil)) pe_int (nomark _)) (pss_cons (ps_if (pt_not (pt_val (pe_refused (cc := (He.cT K ("_law_k04_refusals", none)).1) (P := (He.cT K ("_law_k04_refusals", none)).2) T (hr.mono (by decide)) rfl (TB _ (List.mem_of_getElem? (i := 1) rfl)) rfl (List.mem_of_getElem? (i := 1) rfl) (LamX.lamS_by (by kernel_rfl)) rfl (fun _ _ _ _ _ => rfl) (fun A outer s H E f c' hr => (pe_okK (okk_Garden T) (hr.mono (by first | decide | omega)) rfl (passes_call (takes_of rfl rfl rfl rfl) (fun _ _ _ _ h => h)) (pa_cons (pv 1) (pa_cons (pv 7) pa_nil)))) (pa_cons (pe_tup (pa_cons pe_str (pa_cons (pe_op op_add (pv 4) pe_int) pa_nil))) pa_nil)))) (pss_one (ps_ret pe_bl)) pss_nil)
      (pss_cons (ps_if (pt_not (pt_val (pe_refused (cc := (He.cT K ("_law_k04_refusals", none)).1) (P := (He.cT K ("_law_k04_refusals", none)).2) T (hr.mono (by decide)) rfl (TB _ (List.mem_of_getElem? (i := 1) rfl)) rfl (List.mem_of_getElem? (i := 1) rfl) (LamX.lamS_by (by kernel_rfl)) rfl (fun _ _ _ _ _ => rfl) (fun A outer s H E f c' hr => (pe_okK (okk_Garden T) (hr.mono (by first | decide | omega)) rfl (passes_call (takes_of rfl rfl rfl rfl) (fun _ _ _ _ h => h)) (pa_cons (pv 1) (pa_cons (pe_op op_cat (pv 7) (pe_lst (pa_cons (pv 6) pa_nil))) pa_nil)))) (pa_cons (pe_tup (pa_cons pe_str (pa_cons (pe_op op_add (pv 4) pe_int) pa_nil))) pa_nil)))) (pss_one (ps_ret pe_bl)) pss_nil)
      (pss_cons (ps_if (pt_not (pt_val (pe_refused (cc := (He.cT K ("_law_k04_refusals", none)).1) (P := (He.cT K ("_law_k04_refusals", none)).2) T (hr.mono (by decide)) rfl (TB _ (List.mem_of_getElem? (i := 1) rfl)) rfl (List.mem_of_getElem? (i := 1) rfl) (LamX.lamS_by (by kernel_rfl)) rfl (fun _ _ _ _ _ => rfl) (fun A outer s H E f c' hr => (pe_okM (okm_Garden_with_seeds T) (cl_Garden T) (pv 3) (hr.mono (by first | decide | omega)) (passes_call (takes_of rfl rfl rfl rfl) (fun _ _ _ _ h => h)) (pa_cons (pe_lst (pa_cons (pe_tup (pa_cons pe_int (pa_cons (pv 1) pa_nil))) (pa_cons (pv 5) pa_nil))) pa_nil))) (pa_cons (pe_tup (pa_cons pe_str (pa_cons (pe_op op_add (pe_callB (len_seqK (K := K) rfl) rfl (n_len T) (by decide +kernel) (pa_cons (pv 2) pa_nil)) pe_int) pa_nil))) pa_nil)))) (pss_one (ps_ret pe_bl)) pss_nil)
      (pss_cons (ps_if (pt_not (pt_val (pe_refused (cc := (He.cT K ("_law_k04_refusals", none)).1) (P := (He.cT K ("_law_k04_refusals", none)).2) T (hr.mono (by decide)) rfl (TB _ (List.mem_of_getElem? (i := 1) rfl)) rfl (List.mem_of_getElem? (i := 1) rfl) (LamX.lamS_by (by kernel_rfl)) rfl (fun _ _ _ _ _ => rfl) (fun A outer s H E f c' hr => (pe_okM (okm_Garden_with_seeds T) (cl_Garden T) (pv 3) (hr.mono (by first | decide | omega)) (passes_call (takes_of rfl rfl rfl rfl) (fun _ _ _ _ h => h)) (pa_cons (pe_lst (pa_cons (pv 6) (pa_cons (pv 5) pa_nil))) pa_nil))) (pa_cons (pe_tup (pa_cons pe_str (pa_cons (pe_op op_add (pe_callB (len_seqK (K := K) rfl) rfl (n_len T) (by decide +kernel) (pa_cons (pv 2) pa_nil)) pe_int) pa_nil))) pa_nil)))) (pss_one (ps_ret pe_bl)) pss_nil)
      (pss_cons (ps_if (pt_not (pt_val (pe_refused (cc := (He.cT K ("_law_k04_refusals", none)).1) (P := (He.cT K ("_law_k04_refusals", none)).2) T (hr.mono (by decide)) rfl (TB _ (List.mem_of_getElem? (i := 1) rfl)) rfl (List.mem_of_getElem? (i := 1) rfl) (LamX.lamS_by (by kernel_rfl)) rfl (fun _ _ _ _ _ => rfl) (fun A outer s H E f c' hr => (pe_okK (okk_Garden T) (hr.mono (by first | decide | omega)) rfl (passes_call (takes_of rfl rfl rfl rfl) (fun _ _ _ _ h => h)) (pa_cons pe_int (pa_cons (pv 7) pa_nil)))) (pa_cons (pe_tup (pa_cons pe_str (pa_cons pe_int pa_nil))) pa_nil)))) (pss_one (ps_ret pe_bl)) pss_nil)
      (pss_one (ps_if (pt_not (pt_val (pe_refused (cc := (He.cT K ("_law_k04_refusals", none)).1) (P := (He.cT K ("_law_k04_refusals", none)).2) T (hr.mono (by decide)) rfl (TB _ (List.mem_of_getElem? (i := 1) rfl)) rfl (List.mem_of_getElem? (i := 1) rfl) (LamX.lamS_by (by kernel_rfl)) rfl (fun _ _ _ _ _ => rfl) (fun A outer s H E f c' hr => (pe_okK (okk_Garden T) (hr.mono (by first | decide | omega)) rfl (passes_call (takes_of rfl rfl rfl rfl) (fun _ _ _ _ h => h)) (pa_cons pe_int (pa_cons (pv 7) pa_nil)))) (pa_cons (pe_tup (pa_cons pe_str (pa_cons pe_str pa_nil))) pa_nil)))) (pss_one (ps_ret pe_bl)) pss_nil))))))) pss_nil)
      (pss_cons (ps_set (i := 8) sc__law_k04_refusals.nd rfl (by first | exact Or.inl rfl | exact Or.inr rfl) (pe_op op_sub pe_int (pe_callB (len_seqK (K := K) rfl) rfl (n_len T) (by decide +kernel) (pa_cons (pv 2) pa_nil))))
      (pss_cons (ps_if (pt_not (pt_val (pe_refused (cc := (He.cT K ("_law_k04_refusals", none)).1) (P := (He.cT K ("_law_k04_refusals", none)).2) T (hr.mono (by decide)) rfl (TB _ (List.mem_of_getElem? (i := 1) rfl)) rfl (List.mem_of_getElem? (i := 1) rfl) (LamX.lamS_by (by kernel_rfl)) rfl (fun _ _ _ _ _ => rfl) (fun A outer s H E f c' hr => (pe_okK (okk_Garden T) (hr.mono (by first | decide | omega)) rfl (passes_call (takes_of rfl rfl rfl rfl) (fun _ _ _ _ h => h)) (pa_cons pe_int (pa_cons (pe_lst pa_nil) pa_nil)))) (pa_cons (pe_tup (pa_cons pe_str (pa_cons pe_int pa_nil))) pa_nil)))) (pss_one (ps_ret pe_bl)) pss_nil)
      (pss_cons (ps_if (pt_not (pt_val (pe_refused (cc := (He.cT K ("_law_k04_refusals", none)).1) (P := (He.cT K ("_law_k04_refusals", none)).2) T (hr.mono (by decide)) rfl (TB _ (List.mem_of_getElem? (i := 1) rfl)) rfl (List.mem_of_getElem? (i := 1) rfl) (LamX.lamS_by (by kernel_rfl)) rfl (fun _ _ _ _ _ => rfl) (fun A outer s H E f c' hr => (pe_okK (okk_Garden T) (hr.mono (by first | decide | omega)) rfl (passes_call (takes_of rfl rfl rfl rfl) (fun _ _ _ _ h => h)) (pa_cons pe_int (pa_cons (pe_op op_rep (pe_lst (pa_cons (pe_tup (pa_cons pe_int (pa_cons pe_int pa_nil))) pa_nil)) pe_int) pa_nil)))) (pa_cons (pe_tup (pa_cons pe_str (pa_cons pe_str pa_nil))) pa_nil)))) (pss_one (ps_ret pe_bl)) pss_nil)
      (pss_cons (ps_if (pt_not (pt_val (pe_refused (cc := (He.cT K ("_law_k04_refusals", none)).1) (P := (He.cT K ("_law_k04_refusals", none)).2) T (hr.mono (by decide)) rfl (TB _ (List.mem_of_getElem? (i := 1) rfl)) rfl (List.mem_of_getElem? (i := 1) rfl) (LamX.lamS_by (by kernel_rfl)) rfl (fun _ _ _ _ _ => rfl) (fun A outer s H E f c' hr => (pe_okK (okk_Garden T) (hr.mono (by first | decide | omega)) rfl (passes_call (takes_of rfl rfl rfl rfl) (fun _ _ _ _ h => h)) (pa_cons pe_int (pa_cons (pe_op op_rep (pe_lst (pa_cons (pe_tup (pa_cons pe_int (pa_cons pe_int pa_nil))) pa_nil)) pe_int) pa_nil)))) (pa_cons (pe_tup (pa_cons pe_str (pa_cons pe_str pa_nil))) pa_nil)))) (pss_one (ps_ret pe_bl)) pss_nil)
      (pss_cons (ps_if (pt_not (pt_val (pe_refused (cc := (He.cT K ("_law_k04_refusals", none)).1) (P := (He.cT K ("_law_k04_refusals", none)).2) T (hr.mono (by decide)) rfl (TB _ (List.mem_of_getElem? (i := 1) rfl)) rfl (List.mem_of_getElem? (i := 1) rfl) (LamX.lamS_by (by kernel_rfl)) rfl (fun _ _ _ _ _ => rfl) (fun A outer s H E f c' hr => (pe_okM (okm_Garden_with_seeds T) (cl_Garden T) (pv 3) (hr.mono (by first | decide | omega)) (passes_call (takes_of rfl rfl rfl rfl) (fun _ _ _ _ h => h)) (pa_cons (pe_op op_rep (pe_lst (pa_cons (pe_tup (pa_cons pe_int (pa_cons pe_int pa_nil))) pa_nil)) (pe_op op_add (pv 8) pe_int)) pa_nil))) (pa_cons (pe_tup (pa_cons pe_str (pa_cons pe_str pa_nil))) pa_nil)))) (pss_one (ps_ret pe_bl)) pss_nil)
      (pss_cons (ps_set (i := 9) sc__law_k04_refusals.nd rfl (by first | exact Or.inl rfl | exact Or.inr rfl) (pe_okM (okm_Garden_with_seeds T) (cl_Garden T) (pv 3) (hr.mono (by first | decide | omega)) passL (pa_cons (pe_op op_rep (pe_lst (pa_cons (pe_tup (pa_cons pe_int (pa_cons (pv 1) pa_nil))) pa_nil)) (pv 8)) pa_nil)))
      (pss_cons (ps_if (PW.pt (pw_or (pt_not (pt_val (pe_ok (ok__law_matches T) (hr.mono (by first | decide | omega)) rfl pass0 (pa_cons (pe_okM0 (okm_Garden_many T) (cl_Garden T) (pv 9) (hr.mono (by first | decide | omega)) pass0) (pa_cons pe_int pa_nil))))) (pw_or1 (pt_not (pt_val (pe_ok (ok__law_matches T) (hr.mono (by first | decide | omega)) rfl pass0 (pa_cons (pe_okM (okm_Garden_inside T) (cl_Garden T) (pv 9) (hr.mono (by first | decide | omega)) passL (pa_cons pe_int (pa_cons (pv 1) pa_nil))) (pa_cons pe_int pa_nil)))))))) (pss_one (ps_ret pe_bl)) pss_nil)
      (pss_one (ps_ret (pe_and (pe_ok (ok__law_matches T) (hr.mono (by first | decide | omega)) rfl pass0 (pa_cons (pe_okM (okm_Garden_open_on T) (cl_Garden T) (pe_okK (okk_Garden T) (hr.mono (by first | decide | omega)) rfl passL (pa_cons pe_int (pa_cons (pe_lst (pa_cons (pe_tup (pa_cons pe_int (pa_cons pe_int pa_nil))) pa_nil)) pa_nil))) (hr.mono (by first | decide | omega)) passL (pa_cons pe_int pa_nil)) (pa_cons (pe_lst (pa_cons pe_int pa_nil)) pa_nil))) (pe_one (pe_ok (ok__law_matches T) (hr.mono (by first | decide | omega)) rfl pass0 (pa_cons (pe_okM0 (okm_Garden_rows T) (cl_Garden T) (pe_okK (okk_Garden T) (hr.mono (by first | decide | omega)) rfl passL (pa_cons pe_int (pa_cons (pe_lst pa_nil) pa_nil))) (hr.mono (by first | decide | omega)) pass0) (pa_cons (pe_lst pa_nil) pa_nil))))))))))))))))))), ?_⟩
    have eBG : ErrC K (cBG K) "BadGarden" "row" := .inr (.inl ⟨rfl, rfl, rfl⟩)
    have eTM : ErrC K (cTM K) "TooMany" "what" := .inl ⟨rfl, rfl, rfl⟩
    have hxw : xs.length = ws.length := Paired.length h3
    -- place, wrong, other
    refine ⟨_, rfl, _, rfl, _, _, rfl, .inl (SqL.of h2), _, _, rfl, rfl, sa, _, rfl, by omega, by omega, hst, fun at_ x y z at0 at1 => ?_⟩
    have b1 : But sa H (upd H sa (stk x y z)) := (But.refl sa H).upd
    have hst1 : Stk (upd H sa (stk x y z)) sa := stk_upd
    generalize upd H sa (stk x y z) = H1 at b1 hst1 ⊢
    refine ⟨_, rfl, _, rfl, sa, d, rfl, d1, d2, hst1, fun p1 cw H2 b2 hst2 hp1 hg1 hbad => ?_⟩
    refine ⟨_, rfl, _, rfl, sa, d, rfl, d1, d2, hst2, fun p2 co H3 b3 hst3 hp2 hg2 hbad2 => ?_⟩
    have n1 : p1 ≠ sa := fun z => hst1.ne (z ▸ hp1)
    have n2 : p2 ≠ sa := fun z => hst2.ne (z ▸ hp2)
    have g1 := b3 _ _ hg1 n1
    have b13 := (b1.trans b2).trans b3
    have hL3 := b13 _ _ h2 hne
    have hP3 : Paired (PairT H3) xs ws := Paired.mapP h3 fun _ _ w => w.bx hst (Bx.of_but b13)
    have hG3 := hG.but hst b13
    have T3 := tabs_but hT hst b13
    have w1 : PairT H3 (.ref p1) cw := ⟨p1, rfl, g1⟩
    have w2 : PairT H3 (.ref p2) co := ⟨p2, rfl, hg2⟩
    have hxl : xs.length ≤ 120 := by omega
    have ct : cutV xs none (some at_) = xs.take at_.toNat := cut_take xs (by omega)
    have cd : cutV xs (some at_) none = xs.drop at_.toNat := cut_drop xs (by omega)
    have htl : (ws.take at_.toNat).length = at_.toNat := by rw [List.length_take]; omega
    have hxtl : (xs.take at_.toNat).length = at_.toNat := by rw [List.length_take]; omega
    have hxdl : (xs.drop at_.toNat).length = xs.length - at_.toNat := by rw [List.length_drop]
    -- rows
    refine ⟨_, rfl, _, rfl, _, rfl, l, xs, rfl, SqL.of hL3, fun m1 hm1 => ?_⟩
    rw [ct]
    obtain ⟨s1, f1⟩ := new2 (.lst (xs.take at_.toNat)) hm1
    refine ⟨_, rfl, (by show 1 ≤ sizeLine; decide), fun m2 hm2 => ?_⟩
    obtain ⟨s2, f2⟩ := new2 (.lst [V.ref p1]) hm2
    refine ⟨m1, m2, _, _, rfl, rfl, s2 _ _ f1, f2, (by show _ + 1 ≤ sizeLine; exact line_of (by omega)), fun m3 hm3 => ?_⟩
    obtain ⟨s3, f3⟩ := new2 (.lst (xs.take at_.toNat ++ [V.ref p1])) hm3
    have s13 := (s1.trans s2).trans s3
    refine ⟨_, rfl, _, rfl, _, rfl, l, xs, rfl, SqL.of (s13 _ _ hL3), fun m4 hm4 => ?_⟩
    rw [cd]
    obtain ⟨s4, f4⟩ := new2 (.lst (xs.drop at_.toNat)) hm4
    refine ⟨m3, m4, _, _, rfl, rfl, s4 _ _ f3, f4, (by rw [List.length_append]; show _ + 1 + _ ≤ sizeLine; exact line_of (by omega)), fun r hr_ => ?_⟩
    obtain ⟨s5, f5⟩ := new2 (.lst (xs.take at_.toNat ++ [V.ref p1] ++ xs.drop at_.toNat)) hr_
    have s15 := (s13.trans s4).trans s5
    have hP5 : Paired (PairT H3) (xs.take at_.toNat ++ [V.ref p1] ++ xs.drop at_.toNat) (ws.take at_.toNat ++ [cw] ++ ws.drop at_.toNat) := paired_app (paired_app (paired_take _ hP3) (.cons w1 .nil)) (paired_drop _ hP3)
    have fb : ∀ q, fbadW d 1 (ws.take at_.toNat ++ [cw] ++ ws.drop at_.toNat ++ q) = at_ + 1 := fun q => by
      rw [List.append_assoc, List.append_assoc]
      have := fbadW_app (T := d) (w := cw) (r := ws.drop at_.toNat ++ q) hbad (ws.take at_.toNat) 1 fun c hc => hV c (List.mem_of_mem_take hc)
      rw [htl] at this
      show fbadW d 1 (ws.take at_.toNat ++ cw :: (ws.drop at_.toNat ++ q)) = _
      rw [this]
      omega
    have hcl : (ws.take at_.toNat ++ [cw] ++ ws.drop at_.toNat).length = ws.length + 1 := by
      rw [List.length_append, List.length_append, htl, List.length_drop]
      show _ + 1 + _ = _
      omega
    have fb0 := fb []
    rw [List.append_nil] at fb0
    have hL5 := s15 _ _ hL3
    have hP5w := paired_same s15 hP3
    have hPr := paired_same s15 hP5
    have hG5 := hG3.same s15
    have T5 := T3.ext s15
    have hst5 := hst3.same s15
    have w1 := w1.same s15
    have w2 := w2.same s15
    have b5 := b13.trans (But.of s15)
    generalize ws.take at_.toNat ++ [cw] ++ ws.drop at_.toNat = cr at hcl fb fb0 hPr
    generalize xs.take at_.toNat ++ [V.ref p1] ++ xs.drop at_.toNat = xr at s5 f5 hPr s15 hL5 hP5w hG5 T5 hst5 w1 w2 b5 ⊢
    generalize upd (upd (upd (upd (upd H3 m1 (.lst (xs.take at_.toNat))) m2 (.lst [V.ref p1])) m3 (.lst (xs.take at_.toNat ++ [V.ref p1]))) m4 (.lst (xs.drop at_.toNat))) r (.lst xr) = H5 at s5 f5 hPr s15 hL5 hP5w hG5 T5 hst5 w1 w2 b5 ⊢
    obtain ⟨dx, lg, xg, i1, i2, i3⟩ := id hG5
    have hxr : xr.length = cr.length := Paired.length hPr
    refine nxE (st_blk (fun σ H' => LamX.ExtN H5 H' ∧ LamX.Tabs (Tl K) H' ∧ σ = [some (.ref sa), some (.int d), some (.ref l), some (.ref gp), some (.int at_), some (.ref p1), some (.ref p2), some (.ref r), none, none]) (fun N hN => ?_) ?_)
    · refine ⟨_, rfl, _, _, rfl, .inl (SqL.of hL5), _, _, rfl, rfl, _, rfl, ite2 (fun c => ?_) (fun c => hN _ _ ⟨fun _ _ h _ => h, T5, rfl⟩)⟩
      have hlen := of_decide_eq_true c
      refine ref_step (fl := "row") (.int (at_ + 1)) T5 eBG (.inl ⟨_, rfl⟩) (fun H1 Q _ q => ⟨_, rfl, _, _, rfl, rfl, q⟩) (fun H2 H3 Q' e2 q2 => ?_) (fun H6 e6 T6 => ⟨_, rfl, iteF ?_⟩)
      · have e3 := e2.trans (ext_of q2)
        exact ⟨_, rfl, _, rfl, madeR (ext_lst e3 f5) (paired_ext e3 hPr) (by omega) (.inr (.inr (.inr ⟨d1, d2, by omega, by omega, rfl, rfl, by rw [fb0]⟩))) q2⟩
      have h6 : H6 r = some (.lst xr) := ext_lst e6 f5
      refine ref_step (fl := "row") (.int (at_ + 1)) T6 eBG (.inl ⟨_, rfl⟩) (fun H1 Q _ q => ⟨_, rfl, _, _, rfl, rfl, q⟩) (fun H2 H3 Q' e2 q2 => ?_) (fun H7 e7 T7 => ⟨_, rfl, iteF ?_⟩)
      · have e3 := e6.trans (e2.trans (ext_of q2))
        refine ⟨_, rfl, _, rfl, _, rfl, (by show 1 ≤ sizeLine; decide), fun m hm => ?_⟩
        obtain ⟨s6, f6⟩ := new2 (.lst [V.ref p2]) hm
        refine ⟨r, m, _, _, rfl, rfl, s6 _ _ (ext_lst e3 f5), f6, (by show _ + 1 ≤ sizeLine; exact line_of (by omega)), fun m' hm' => ?_⟩
        obtain ⟨s7, f7⟩ := new2 (.lst (xr ++ [V.ref p2])) hm'
        have s67 := s6.trans s7
        exact madeR (ws := cr ++ [co]) f7 (paired_app (paired_same s67 (paired_ext e3 hPr)) (.cons ((PairT.ext e3 w2).same s67) .nil)) (by rw [List.length_append]; show _ + 1 ≤ 1000; omega) (.inr (.inr (.inr ⟨d1, d2, by rw [List.length_append]; show _ + 1 ≤ 120; omega, by rw [fb]; omega, rfl, rfl, by rw [fb]⟩))) (q2.trans s67)
      have e7 := e6.trans e7
      refine ref_step (fl := "row") (.int ((xs.length : Int) + 2)) T7 eBG (.inl ⟨_, rfl⟩) (fun H1 Q e q => ⟨_, rfl, _, _, rfl, .inl (SqL.of (ext_lst e (ext_lst e7 hL5))), _, _, rfl, rfl, q⟩) (fun H2 H3 Q' e2 q2 => ?_) (fun H8 e8 T8 => ⟨_, rfl, iteF ?_⟩)
      · have e3 := e7.trans (e2.trans (ext_of q2))
        refine ⟨_, rfl, gp, dx, _, rfl, ext_ins e3 i1, gf_no (by decide +kernel) (by decide +kernel), _, rfl, (by show 2 ≤ sizeLine; decide), fun t ht => ?_⟩
        obtain ⟨s6, f6⟩ := new2 (.tup [V.int 1, V.int d]) ht
        refine ⟨_, rfl, (by show 2 ≤ sizeLine; decide), fun m hm => ?_⟩
        obtain ⟨s7, f7⟩ := new2 (.lst [V.ref t, V.ref p1]) hm
        have s67 := s6.trans s7
        have fbx : fbadW d 1 (ws ++ [((1 : Int), d), cw]) = (xs.length : Int) + 2 := by
          have := fbadW_app (T := d) (w := cw) (r := []) hbad (ws ++ [((1 : Int), d)]) 1 fun c hc => by
            rcases List.mem_append.mp hc with hc | hc
            · exact hV c hc
            · rw [List.mem_singleton.mp hc]; unfold VW; omega
          rw [List.append_assoc] at this
          rw [List.length_append] at this
          show fbadW d 1 (ws ++ ([((1 : Int), d)] ++ [cw])) = _
          rw [this, hxw]
          show 1 + ((ws.length + 1 : Nat) : Int) = _
          omega
        have due : GDue K d (ws ++ [((1 : Int), d), cw]) (cBG K) "row" (.int ((xs.length : Int) + 2)) := .inr (.inr (.inr ⟨d1, d2, by rw [List.length_append]; show _ + 2 ≤ 120; omega, by rw [fbx]; omega, rfl, rfl, by rw [fbx]⟩))
        exact ⟨gp, d, ws, m, _, [((1 : Int), d), cw], rfl, (hG5.ext e3).same s67, f7, .cons ⟨t, rfl, s7 _ _ f6⟩ (.cons ((PairT.ext e3 w1).same s67) .nil), by omega, (by show 2 ≤ 300; decide), due.err (q2.trans s67), fun h1 h2 h3 h4 => (due.no h1 h2 h3 h4).elim⟩
      have e8 := e7.trans e8
      refine ref_step (fl := "row") (.int ((xs.length : Int) + 1)) T8 eBG (.inl ⟨_, rfl⟩) (fun H1 Q e q => ⟨_, rfl, _, _, rfl, .inl (SqL.of (ext_lst e (ext_lst e8 hL5))), _, _, rfl, rfl, q⟩) (fun H2 H3 Q' e2 q2 => ?_) (fun H9 e9 T9 => ⟨_, rfl, iteF ?_⟩)
      · have e3 := e8.trans (e2.trans (ext_of q2))
        refine ⟨_, rfl, gp, dx, _, rfl, ext_ins e3 i1, gf_no (by decide +kernel) (by decide +kernel), _, rfl, _, rfl, (by show 2 ≤ sizeLine; decide), fun m hm => ?_⟩
        obtain ⟨s7, f7⟩ := new2 (.lst [V.ref p2, V.ref p1]) hm
        have fbx : fbadW d 1 (ws ++ [co, cw]) = (xs.length : Int) + 1 := by
          have := fbadW_app (T := d) (w := co) (r := [cw]) hbad2 ws 1 hV
          rw [this, hxw]
          omega
        have due : GDue K d (ws ++ [co, cw]) (cBG K) "row" (.int ((xs.length : Int) + 1)) := .inr (.inr (.inr ⟨d1, d2, by rw [List.length_append]; show _ + 2 ≤ 120; omega, by rw [fbx]; omega, rfl, rfl, by rw [fbx]⟩))
        exact ⟨gp, d, ws, m, _, [co, cw], rfl, (hG5.ext e3).same s7, f7, .cons ((PairT.ext e3 w2).same s7) (.cons ((PairT.ext e3 w1).same s7) .nil), by omega, (by show 2 ≤ 300; decide), due.err (q2.trans s7), fun h1 h2 h3 h4 => (due.no h1 h2 h3 h4).elim⟩
      have e9 := e8.trans e9
      refine ref_step (fl := "row") (.int 0) T9 eBG (.inl ⟨_, rfl⟩) (fun H1 Q _ q => q) (fun H2 H3 Q' e2 q2 => ?_) (fun H10 e10 T10 => ⟨_, rfl, iteF ?_⟩)
      · have e3 := e9.trans (e2.trans (ext_of q2))
        exact ⟨_, rfl, madeR (ext_lst e3 f5) (paired_ext e3 hPr) (by omega) (.inr (.inr (.inl ⟨by decide, by omega, rfl, rfl, rfl⟩))) q2⟩
      have e10 := e9.trans e10
      refine ref_step (fl := "what") (.str "days") T10 eTM (.inr ⟨_, rfl⟩) (fun H1 Q _ q => q) (fun H2 H3 Q' e2 q2 => ?_) (fun H11 e11 T11 => ⟨_, rfl, iteF ?_⟩)
      · have e3 := e10.trans (e2.trans (ext_of q2))
        exact ⟨_, rfl, madeR (ext_lst e3 f5) (paired_ext e3 hPr) (by omega) (.inl ⟨by decide, rfl, rfl, rfl⟩) q2⟩
      exact hN _ _ ⟨e10.trans e11, T11, rfl⟩
    · rintro σ H6 ⟨e6, T6, rfl⟩
      have hL6 := ext_lst e6 hL5
      refine ⟨_, rfl, _, _, rfl, .inl (SqL.of hL6), _, _, rfl, rfl, ?_⟩
      refine ref_step (fl := "row") (.int 0) T6 eBG (.inl ⟨_, rfl⟩) (fun H1 Q _ q => q) (fun H2 H3 Q' e2 q2 => ?_) (fun H7 e7 T7 => ⟨_, rfl, iteF ?_⟩)
      · refine ⟨(by show 0 ≤ sizeLine; decide), fun m hm => ?_⟩
        obtain ⟨s7, f7⟩ := new2 (.lst []) hm
        exact madeR (ws := []) f7 .nil (by decide) (.inr (.inr (.inl ⟨by decide, by decide, rfl, rfl, rfl⟩))) (q2.trans s7)
      have rep : ∀ (H3 : Hp) (t ll m : Addr) (p q : Int) (n : Nat), H3 t = none → upd H3 t (.tup [V.int p, V.int q]) ll = none → upd (upd H3 t (.tup [V.int p, V.int q])) ll (.lst [V.ref t]) m = none → 
          Same H3 (upd (upd (upd H3 t (.tup [V.int p, V.int q])) ll (.lst [V.ref t])) m (.lst (List.replicate n [V.ref t]).flatten)) ∧
          Paired (PairT (upd (upd (upd H3 t (.tup [V.int p, V.int q])) ll (.lst [V.ref t])) m (.lst (List.replicate n [V.ref t]).flatten))) (List.replicate n [V.ref t]).flatten (List.replicate n (p, q)) := fun H3 t ll m p q n h1 h2 h3 => by
        obtain ⟨s1, g1⟩ := new2 (.tup [V.int p, V.int q]) h1
        obtain ⟨s2, g2⟩ := new2 (.lst [V.ref t]) h2
        obtain ⟨s3, g3⟩ := new2 (.lst (List.replicate n [V.ref t]).flatten) h3
        exact ⟨(s1.trans s2).trans s3, paired_rep (⟨t, rfl, s3 _ _ (s2 _ _ g1)⟩ : PairT _ (.ref t) (p, q)) n⟩
      refine ref_step (fl := "what") (.str "seeds") T7 eTM (.inr ⟨_, rfl⟩) (fun H1 Q _ q => q) (fun H2 H3 Q' e2 q2 => ?_) (fun H8 e8 T8 => ⟨_, rfl, iteF ?_⟩)
      · refine ⟨(by show 2 ≤ sizeLine; decide), fun t ht => ⟨(by show 1 ≤ sizeLine; decide), fun ll hl => ⟨ll, 121, _, rfl, rfl, upd_same, by decide, by decide, (by show 1 * 121 ≤ sizeLine; decide), fun m hm => ?_⟩⟩⟩
        obtain ⟨s1, hr1⟩ := rep _ _ _ _ _ _ _ ht hl hm
        exact madeR upd_same hr1 (by decide) (.inr (.inl ⟨by decide, by decide, rfl, rfl, rfl⟩)) (q2.trans s1)
      have e8 := e7.trans e8
      refine ref_step (fl := "what") (.str "days") T8 eTM (.inr ⟨_, rfl⟩) (fun H1 Q _ q => q) (fun H2 H3 Q' e2 q2 => ?_) (fun H9 e9 T9 => ⟨_, rfl, iteF ?_⟩)
      · refine ⟨(by show 2 ≤ sizeLine; decide), fun t ht => ⟨(by show 1 ≤ sizeLine; decide), fun ll hl => ⟨ll, 121, _, rfl, rfl, upd_same, by decide, by decide, (by show 1 * 121 ≤ sizeLine; decide), fun m hm => ?_⟩⟩⟩
        obtain ⟨s1, hr1⟩ := rep _ _ _ _ _ _ _ ht hl hm
        exact madeR upd_same hr1 (by decide) (.inl ⟨by decide, rfl, rfl, rfl⟩) (q2.trans s1)
      have e9 := e6.trans (e8.trans e9)
      refine ref_step (fl := "what") (.str "seeds") T9 eTM (.inr ⟨_, rfl⟩) (fun H1 Q _ q => q) (fun H2 H3 Q' e2 q2 => ?_) (fun H10 e10 T10 => ⟨_, rfl, iteF ?_⟩)
      · have e3 := e9.trans (e2.trans (ext_of q2))
        refine ⟨_, rfl, gp, dx, _, rfl, ext_ins e3 i1, gf_no (by decide +kernel) (by decide +kernel), (by show 2 ≤ sizeLine; decide), fun t ht => ⟨(by show 1 ≤ sizeLine; decide), fun ll hl => ⟨_, rfl, _, _, rfl, rfl, ll, _, _, rfl, rfl, upd_same, by omega, by omega, (by show 1 * _ ≤ sizeLine; exact line_of (by omega)), fun m hm => ?_⟩⟩⟩
        obtain ⟨s1, hr1⟩ := rep _ _ _ _ _ _ _ ht hl hm
        have due : GDue K d (ws ++ List.replicate (120 - (xs.length : Int) + 1).toNat ((1 : Int), (1 : Int))) (cTM K) "what" (.str "seeds") := .inr (.inl ⟨d2, by rw [List.length_append, List.length_replicate]; omega, rfl, rfl, rfl⟩)
        exact ⟨gp, d, ws, m, _, _, rfl, (hG5.ext e3).same s1, upd_same, hr1, by omega, by rw [List.length_replicate]; omega, due.err (q2.trans s1), fun h1 h2 h3 h4 => (due.no h1 h2 h3 h4).elim⟩
      have e10 := e9.trans e10
      have hG10 := hG5.ext e10
      refine ⟨_, rfl, gp, dx, _, rfl, ext_ins e10 i1, gf_no (by decide +kernel) (by decide +kernel), _, rfl, (by show 2 ≤ sizeLine; decide), fun t ht => ⟨(by show 1 ≤ sizeLine; decide), fun ll hl => ⟨_, rfl, ll, _, _, rfl, rfl, upd_same, by omega, by omega, (by show 1 * _ ≤ sizeLine; exact line_of (by omega)), fun m hm => ?_⟩⟩⟩
      obtain ⟨s1, hr1⟩ := rep _ _ _ _ _ _ (120 - (xs.length : Int)).toNat ht hl hm
      generalize hrr : (120 - (xs.length : Int)).toNat = rr at s1 hr1 ⊢
      have hrr : rr = 120 - ws.length := by omega
      have hVf : ∀ c ∈ ws ++ List.replicate rr ((1 : Int), d), VW d c := fun c hc => by
        rcases List.mem_append.mp hc with hc | hc
        · exact hV c hc
        · rw [(List.mem_replicate.mp hc).2]; unfold VW; omega
      have hlf : (ws ++ List.replicate rr ((1 : Int), d)).length = 120 := by rw [List.length_append, List.length_replicate]; omega
      have hmf : upd (upd (upd H10 t (.tup [V.int 1, V.int d])) ll (.lst [V.ref t])) m (.lst (List.replicate rr [V.ref t]).flatten) m = some (.lst (List.replicate rr [V.ref t]).flatten) := upd_same
      generalize upd (upd (upd H10 t (.tup [V.int 1, V.int d])) ll (.lst [V.ref t])) m (.lst (List.replicate rr [V.ref t]).flatten) = H11 at s1 hr1 hmf ⊢
      refine ⟨gp, d, ws, m, _, _, rfl, hG10.same s1, hmf, hr1, by omega, by rw [List.length_replicate]; omega, GErr.ok d1 d2 (by omega) hVf, fun _ _ _ _ fp H12 hfp s12 hF => ?_⟩
      have hF := hF.at
      have e12 := e10.trans (ext_of (s1.trans s12))
      have T12 := T10.ext (s1.trans s12)
      clear hr1 hmf s1 ht hl hm
      generalize hfw : ws ++ List.replicate rr ((1 : Int), d) = fw at hF hlf hVf
      obtain ⟨dy, lf, xf, j1, j2, j3⟩ := id hF
      refine ⟨_, rfl, fp, dy, _, rfl, j1, gf_no (by decide +kernel) (by decide +kernel), fp, d, fw, rfl, hF, ?_⟩
      rw [hlf]
      refine ⟨_, _, rfl, mt_int2 120, fun H13 s13 => ⟨_, rfl, ?_⟩⟩
      have hbs : badS d 0 d = none := by
        unfold badS
        repeat' split
        all_goals first | rfl | omega
      refine ⟨_, rfl, fp, dy, _, rfl, s13 _ _ j1, gf_no (by decide +kernel) (by decide +kernel), _, rfl, fp, d, fw, _, _, rfl, hF.same s13, by omega, (fun x hx => by rw [hbs] at hx; cases hx), fun _ H14 s14 => ?_⟩
      have hin : inC 0 d fw = 120 := by
        rw [← hlf]
        unfold inC
        rw [List.filter_eq_self.mpr fun c hc => ?_]
        have := hVf c hc
        unfold VW at this
        simp
        omega
      rw [hin]
      refine ⟨_, _, rfl, mt_int2 120, fun H15 s15' => ⟨_, rfl, ?_⟩⟩
      have s1315 := (s13.trans s14).trans s15'
      have e15 := e12.trans (ext_of s1315)
      have T15 := T12.ext s1315
      refine ⟨(by show 2 ≤ sizeLine; decide), fun t1 ht1 => ⟨(by show 1 ≤ sizeLine; decide), fun l1 hl1 => ?_⟩⟩
      obtain ⟨q1, f1⟩ := new2 (.tup [V.int 24, V.int 24]) ht1
      obtain ⟨q2, f2⟩ := new2 (.lst [V.ref t1]) hl1
      have q12 := q1.trans q2
      refine made2 (K := K) (E := E0) (d := 24) (ws := [((24 : Int), (24 : Int))]) f2 (.cons ⟨t1, rfl, q2 _ _ f1⟩ .nil) (by show 1 ≤ 1000; decide) (GErr.ok (by decide) (by decide) (by decide) (fun c hc => by rw [List.mem_singleton.mp hc]; unfold VW; decide)) fun _ _ _ _ g1 H16 hg1 q3 hG1 => ?_
      obtain ⟨dz, lz, xz, _, z1, z2, z3⟩ := id hG1
      refine ⟨g1, dz, _, rfl, z1, gf_no (by decide +kernel) (by decide +kernel), g1, 24, _, _, rfl, hG1.at, by decide, (fun z => absurd (by decide) z), fun _ _ l3 H17 hl3 q4 hL3 => ?_⟩
      refine ⟨(by show 1 ≤ sizeLine; decide), fun l4 hl4 => ?_⟩
      obtain ⟨q5, f5'⟩ := new2 (.lst [V.int 1]) hl4
      have q45 := q4.trans q5
      refine ⟨_, _, rfl, mt_ints2 (ns := [1]) (by decide) (q5 _ _ hL3) f5', fun H18 q6 => ?_⟩
      refine ⟨_, rfl, (by show 0 ≤ sizeLine; decide), fun l5 hl5 => ?_⟩
      obtain ⟨q7, f7⟩ := new2 (.lst []) hl5
      refine made2 (K := K) (E := E0) (d := 1) (ws := []) f7 .nil (by show 0 ≤ 1000; decide) (GErr.ok (by decide) (by decide) (by decide) (fun c hc => by cases hc)) fun _ _ _ _ g2 H20 hg2 q8 hG2 => ?_
      obtain ⟨dv, lv, xv, _, v1, v2, v3⟩ := id hG2
      refine ⟨g2, dv, _, rfl, v1, gf_no (by decide +kernel) (by decide +kernel), g2, 1, _, rfl, hG2.at, fun r5 x5 H21 hr5 q9 hR5 hP5' => ?_⟩
      refine ⟨(by show 0 ≤ sizeLine; decide), fun l6 hl6 => ?_⟩
      obtain ⟨q10, f10⟩ := new2 (.lst []) hl6
      refine ⟨_, _, rfl, mt_pairs (ws := []) (by decide) (q10 _ _ hR5) f10 (paired_same q10 hP5') .nil, fun H22 q11 => ?_⟩
      have sAll := ((((q12.trans q3).trans q45).trans q6).trans (q7.trans q8)).trans ((q9.trans q10).trans q11)
      have eAll := e15.trans (ext_of sAll)
      exact k _ ((Bx.of_but b5).trans (Bx.of_ext eAll)) (Stk.ext hst5 eAll) (T15.ext sAll)
end
end K04
end
section
set_option maxRecDepth 100000
set_option maxHeartbeats 4000000
/-! the end of a row whose law asks that no repr is under way (after the end with tables) -/
namespace LamX
open PySem PySem.Spec PyProof.Rows L2
/-! ### the first state: nothing is tracked but the empty tables and, where it is not in the written part, the script -/
abbrev tabO : Obj := { cls := .none, data := .fields #[] }
abbrev scrO (us : List Value) : Obj := { cls := .type "list", data := .seq us.toArray }
structure First (K : PySem.W.Frag) (h : Heap) (T : List Addr) (a : Addr) (us : List Value) (ns : List Int) (H : Hp) : Prop where
  tab : ∀ b ∈ T, H b = some (.tbl #[])
  only : ∀ b u, H b = some u → (b ∈ T ∧ u = .tbl #[]) ∨ (b = a ∧ K.lookup a = none ∧ u = .frz (scrO us) (.lst (ns.map V.int)))
  seq : SqL K H a (ns.map V.int)
section
variable {P : Program} {w : World} {K : PySem.W.Frag} {h : Heap} {T : List Addr} {a : Addr} {us : List Value} {ns : List Int} {H : Hp}
theorem first_ex (KX : K.In h) (ha : h.get? a = some (scrO us)) (hT : ∀ b ∈ T, h.get? b = some tabO) (hi : IntsAre us ns) (hl : ns.length ≤ sizeLine) : ∃ H, First K h T a us ns H := by
  have out : ∀ b ∈ T, b ≠ a := fun b hb e => by
    have q := hT b hb
    rw [e, ha] at q
    have := congrArg Obj.data (Option.some.inj q)
    cases this
  cases hk : K.lookup a with
  | some o =>
    have eo : o = scrO us := Option.some.inj ((KX a o hk).symm.trans ha)
    subst eo
    refine ⟨fun b => if b ∈ T then some (.tbl #[]) else none, fun b hb => if_pos hb, fun b u e => ?_, .inr ⟨scrO us, us.toArray, _, hk, rfl, rfl, rfl, ?_, ?_⟩⟩
    · by_cases m : b ∈ T
      · exact .inl ⟨m, Option.some.inj (e.symm.trans (if_pos m))⟩
      · cases (if_neg m).symm.trans e
    · rw [List.size_toArray, hi.length]; exact hl
    · have := vals_ints hi
      simpa using this
  | none =>
    refine ⟨fun b => if b ∈ T then some (.tbl #[]) else if b = a then some (.frz (scrO us) (.lst (ns.map V.int))) else none, fun b hb => if_pos hb, fun b u e => ?_, .inl (.inr ⟨scrO us, ?_⟩)⟩
    · by_cases m : b ∈ T
      · exact .inl ⟨m, Option.some.inj (e.symm.trans (if_pos m))⟩
      · have e := (if_neg m).symm.trans e
        by_cases q : b = a
        · exact .inr ⟨q, hk, Option.some.inj (e.symm.trans (if_pos q))⟩
        · cases (if_neg q).symm.trans e
    · show (if a ∈ T then some (HO.tbl #[]) else if a = a then _ else none) = _
      rw [if_neg (fun m => out a m rfl), if_pos rfl]
theorem First.get (F : First K h T a us ns H) (ha : h.get? a = some (scrO us)) (hT : ∀ b ∈ T, h.get? b = some tabO) {b : Addr} {u : HO} (e : H b = some u) : h.get? b = some tabO ∨ h.get? b = some (scrO us) := by
  rcases F.only b u e with ⟨m, _⟩ | ⟨rfl, _⟩
  · exact .inl (hT b m)
  · exact .inr ha
/-- an object of another kind is not tracked -/
theorem First.free (F : First K h T a us ns H) (ha : h.get? a = some (scrO us)) (hT : ∀ b ∈ T, h.get? b = some tabO) {b : Addr} {o : Obj} (e : h.get? b = some o) (n1 : o ≠ tabO) (n2 : o ≠ scrO us) : H b = none := by
  cases q : H b with
  | none => rfl
  | some u =>
    rcases F.get ha hT q with z | z
    · exact absurd (Option.some.inj (e.symm.trans z)) n1
    · exact absurd (Option.some.inj (e.symm.trans z)) n2
theorem other_dict {o : Obj} {es : Array DictEntry} {n : Nat} (d : o.data = .dict es n) : o ≠ tabO ∧ o ≠ scrO us := ⟨(fun z => by rw [z] at d; cases d), (fun z => by rw [z] at d; cases d)⟩
theorem First.hok (F : First K h T a us ns H) (ha : h.get? a = some (scrO us)) (hT : ∀ b ∈ T, h.get? b = some tabO) (hi : IntsAre us ns) (hl : ns.length ≤ sizeLine) : HOk P w H h := fun b u e => by
  rcases F.only b u e with ⟨m, rfl⟩ | ⟨rfl, _, rfl⟩
  · exact hT b m
  · exact ⟨ha, by rw [List.length_map]; exact hl, us, _, vals_ints hi, ha⟩
/-- the written part stands in what is not tracked -/
theorem First.kin (F : First K h T a us ns H) (KX : K.In h) (nT : ∀ b ∈ T, K.lookup b = none) : K.In (hidT h H) := fun b o e => by
  refine hidT_get (KX b o e) ?_
  cases q : H b with
  | none => rfl
  | some u =>
    rcases F.only b u q with ⟨m, _⟩ | ⟨rfl, z, _⟩
    · rw [nT b m] at e; cases e
    · rw [z] at e; cases e
theorem First.nsOf (F : First K h T a us ns H) (ha : h.get? a = some (scrO us)) (hT : ∀ b ∈ T, h.get? b = some tabO) {b : Addr} {m : Str → Option Value} (g : h.Ns b m) : (hidT h H).Ns b m := by
  obtain ⟨o, es, n, e, d, r⟩ := g
  exact ⟨o, es, n, hidT_get e (F.free ha hT e (other_dict (us := us) d).1 (other_dict (us := us) d).2), d, r⟩
end
theorem law_callG {P : Program} {w : World} {K : PySem.W.Frag} {mg mb : Str → Option Value} {k : Nat} {fa a : Addr} {cs : List (Addr × Addr)} {fd : FuncData} {x : Str} {sp : Sp} {s : Shared} {us : List Value} {ns : List Int}
    (KX : K.In s.heap) (gl : s.heap.Ns mainGlobals mg) (bl : s.heap.Ns builtinsNs mb) (bb : ∀ x : Str, x ≠ "__name__" → mb x = bootBuiltins x) (lim : s.heap.NoLimit) (gens : s.gens = #[])
    (hTc : ∀ p ∈ cs, s.heap.get? p.2 = some tabO) (nTc : ∀ p ∈ cs, K.lookup p.2 = none) (C : ∀ p ∈ cs, PySem.W.CodeHd s.heap p.1 p.2)
    (bm : ∃ (m : Addr) (o : Obj), mg "__builtins__" = some (.ref m) ∧ m ≠ builtinsNs ∧ s.heap.get? m = some o ∧ o.cls = .type "module" ∧ o.dict = some builtinsNs ∧ o.data = .plain)
    (ha : s.heap.get? a = some (scrO us)) (hi : IntsAre us ns) (hl : ns.length ≤ sizeLine) (hr : Room k callerA) (hgd : callerA.guards = some [])
    (F : ∀ base : Heap, K.In base → base.Ns mainGlobals mg → (∀ p ∈ cs, TabB base mg p.1 p.2) → FnG P w K mg base k fa fd [x] sp) (bind : ∀ (s : Shared) (u : Value), BindsTo s fd ⟨[u], []⟩ [(x, u)])
    (hsp : ∀ H : Hp, (∀ p ∈ cs, H p.2 = some (.tbl #[])) → SqL K H a (ns.map V.int) → sp [.ref a] H (fun v _ => v = .bl true) E0) :
    codeAny (model P w) callerA (.call (.ref fa) ⟨[.ref a], []⟩) (fun r t => r = .ok (.ret (.bool true)) ∧ OldK s.heap t.heap ∧ t.os = s.os ∧ AllBare t.gens) s := by
  have inT : ∀ {p}, p ∈ cs → p.2 ∈ cs.map (·.2) := fun hp => List.mem_map_of_mem hp
  have hT : ∀ b ∈ cs.map (·.2), s.heap.get? b = some tabO := fun b hb => by
    obtain ⟨p, hp, rfl⟩ := List.mem_map.mp hb
    exact hTc p hp
  have nT : ∀ b ∈ cs.map (·.2), K.lookup b = none := fun b hb => by
    obtain ⟨p, hp, rfl⟩ := List.mem_map.mp hb
    exact nTc p hp
  obtain ⟨H, W⟩ := first_ex KX ha hT hi hl
  have ok : HOk P w H s.heap := W.hok ha hT hi hl
  have gl' := W.nsOf ha hT gl
  have notG : ∀ {b o}, s.heap.get? b = some o → (∀ es n, o.data ≠ .dict es n) → b ≠ mainGlobals := fun {b o} e n q => by
    obtain ⟨o', es, m, e', d, _⟩ := gl
    rw [q, e'] at e
    rw [Option.some.inj e] at d
    exact n _ _ d
  have M : L2.Mod K mg (hidT s.heap H) := by
    obtain ⟨ml, l1, l2⟩ := lim
    exact ⟨W.kin KX nT, gl', ⟨mb, W.nsOf ha hT bl, bb⟩, ⟨ml, W.nsOf ha hT l1, l2⟩⟩
  have TB : ∀ p ∈ cs, TabB (hidT s.heap H) mg p.1 p.2 := fun p hp => by
    obtain ⟨o, vs, f1, f2, f3, f4, f5, f6, f7, e, c1, c2, c3, rest⟩ := C p hp
    obtain ⟨m, om, b1, b2, b3, b4, b5, b6⟩ := bm
    have fo : H p.1 = none := W.free ha hT e (fun z => by rw [z] at c1; cases c1) (fun z => by rw [z] at c1; exact absurd (show Value.type "list" = Value.type "code" from c1) (by decide))
    have fm : H m = none := W.free ha hT b3 (fun z => by rw [z] at b4; cases b4) (fun z => by rw [z] at b4; exact absurd (show Value.type "list" = Value.type "module" from b4) (by decide))
    have mG : m ≠ mainGlobals := notG b3 fun es n z => by rw [b6] at z; cases z
    have mP : m ≠ p.2 := fun z => by
      rw [z, hTc p hp] at b3
      rw [← Option.some.inj b3] at b6
      cases b6
    have pG : p.2 ≠ mainGlobals := notG (hTc p hp) fun es n z => by cases z
    exact ⟨⟨o, vs, f1, f2, f3, f4, f5, f6, f7, hidT_get e fo, c1, c2, c3, rest⟩, ⟨m, om, b1, b2, mG, mP, hidT_get b3 fm, b4, b5, b6⟩, pG.symm⟩
  have env : Env0 P w K mg (hidT s.heap H) callerA [] s H :=
    { frames := rfl, mod := M, bs := fun b o e => of_hidT e, bsz := Nat.le_of_eq (hidT_size _ _), funs := trivial, frf := fun b hb => (by cases hb), hok := ok, bare := .of_eq gens }
  have run := (F _ M.kin M.glob TB).run callerA [] s H ⟨[.ref a], []⟩ [.ref a] [.ref a] (fun v _ => v = .bl true) hr hgd env (bind s (.ref a)) (.cons rfl .nil) (hsp H (fun p hp => W.tab _ (inT hp)) W.seq)
  refine codeAny_mono run fun r t end_ => ?_
  match r, end_ with
  | .ok (.ret u), ⟨v, H', os, bare, un, ok', rv, e⟩ =>
    subst e
    obtain rfl : u = Value.bool true := rv
    -- what is no table stays
    have stay : ∀ b o, b ∉ cs.map (·.2) → s.heap.get? b = some o → t.heap.get? b = some o := fun b o nb e => by
      cases q : H b with
      | none => exact un.keep b o e q (fun z => by cases z) (fun z => by cases z)
      | some u =>
        rcases W.only b u q with ⟨m, _⟩ | ⟨rfl, _, rfl⟩
        · exact absurd m nb
        · rw [ha] at e
          rw [← Option.some.inj e]
          exact (ok' b _ (un.frzs b _ _ q)).1
    have grow : ∀ b ∈ cs.map (·.2), ∃ more : Array Value, t.heap.get? b = some { cls := .none, data := .fields more } := fun b hb => by
      obtain ⟨more, z⟩ := un.tbls b #[] (W.tab b hb)
      exact ⟨_, ok' b _ z⟩
    refine ⟨rfl, ⟨fun b o e => ?_, fun b o e => ?_⟩, os, bare⟩ <;> by_cases m : b ∈ cs.map (·.2)
    · obtain ⟨p, hp, rfl⟩ := List.mem_map.mp m
      obtain ⟨more, z⟩ := grow _ m
      have eo : o = tabO := Option.some.inj (e.symm.trans (hTc p hp))
      subst eo
      refine .inr (.inl ⟨((C p hp).tab (hTc p hp)).isCodeTable, rfl, #[], more, rfl, ?_⟩)
      rw [Array.empty_append]
      exact z
    · exact .inl (stay b o m e)
    · obtain ⟨more, z⟩ := grow b m
      exact ⟨_, z⟩
    · exact ⟨o, stay b o m e⟩
  | .ok .next, z => exact False.elim z
  | .ok .brk, z => exact False.elim z
  | .ok .cont, z => exact False.elim z
  | .error e, z => exact False.elim z
theorem fnG_defC {P : Program} {w : World} {K : PySem.W.Frag} {mg : Str → Option Value} {base : Heap} {k : Nat} {x : Str} {ps N : List Str} {sp : Sp} {st : Stmt} {cc f : Addr} {fd : FuncData} (F : FnP K x st f fd) (hc : fd.code = .ref cc)
    (S : FnScope N ps (defScope st)) (len : ∀ vs H Q E, sp vs H Q E → vs.length = ps.length)
    (hbody : ∀ (f : Addr) (A : Around) (outer : List Env) (s : Shared) (H : Hp) (vs : List V) (Q : VK), Room k (A.deeper (envOfC x (defScope st) s.heap.objs.size f (.ref cc))) → A.guards = some [] → sp vs H Q E0 →
      ∃ t, PSs (cxOf CX0 P w K mg base N x (defScope st) f (.ref cc) A outer s H E0).nox (defBody st) t ∧ t { nx := fun _ H' => Q .non H', rt := Q } (L2.start N vs) H) : FnG P w K mg base (k + 1) f fd ps sp := by
  obtain ⟨oc, od, dV, kV, doc, pm, an, cdv, ct, osl, rfl, lk, hcd, _, _⟩ := F.ex
  obtain rfl : cdv = .ref cc := hc
  constructor
  · exact len
  · intro A outer s H args us vs Q hr hgd e0 hbt r hsp
    refine run_ofS lk hcd S hr e0 hbt r (len _ _ _ _ hsp) fun hr' => ?_
    obtain ⟨t, h, q⟩ := hbody f A outer s H vs Q hr' hgd hsp
    exact ⟨t, h.nox, q⟩
def LawAtG (l : PySem.W.OpenLaw) (w : World) (K : PySem.W.Frag) (k n : Nat) (x : Str) (mg : Str → Option Value) (fa : Addr) (h : Heap) : Prop :=
  ∃ (fd : FuncData) (cs : List (Addr × Addr)) (sp : Sp), (∀ p ∈ cs, h.get? p.2 = some { cls := .none, data := .fields #[] }) ∧ (∀ p ∈ cs, K.lookup p.2 = none) ∧ (∀ p ∈ cs, PySem.W.CodeHd h p.1 p.2) ∧ (∀ (s : Shared) (u : Value), BindsTo s fd ⟨[u], []⟩ [(x, u)]) ∧
    (∀ (H : Hp) (a : Addr) (ns : List Int), ns.length ≤ n → (∀ p ∈ cs, H p.2 = some (.tbl #[])) → SqL K H a (ns.map V.int) → sp [.ref a] H (fun v _ => v = .bl true) E0) ∧
    ∀ base : Heap, K.In base → base.Ns mainGlobals mg → (∀ p ∈ cs, TabB base mg p.1 p.2) → FnG l.prog w K mg base k fa fd [x] sp
theorem walk_ofG {l : PySem.W.OpenLaw} {n k : Nat} {q : Program} {loose : List Str} {XP : (Str → Option Value) → Heap → Prop} {YP : World → Heap → Prop} {d : DefRec} {x : Str}
    (hn : l.most = some n) (hn2 : n ≤ sizeLine) (hdf : d.params.defaults = []) (hr : Room k callerA) (hgd : callerA.guards = some [])
    (F : ∀ (w : World) (mg : Str → Option Value) (fa : Addr) (h : Heap), YP w h → h.Ns mainGlobals mg → mg d.name = some (.ref fa) → ∃ K : PySem.W.Frag, K.In h ∧ LawAtG l w K k n x mg fa h) :
    PySem.W.WalkO q loose XP YP l.row.toRowW d [] (fun f vs => PySem.call f vs) := by
  refine Att.attach_callB hn hdf fun w s₀ s₁ mg mb fa o pm cd doc a vs ns G Y ho hd hcd hmg hobj hints hlen hbits hg => ?_
  obtain ⟨K, KX, fd, cs, sp, hT, nT, C, hb, hsp, hF⟩ := F w mg fa _ Y G.T.g hmg
  exact law_callG KX G.T.g G.T.b G.T.builtins G.T.nolimit hg hT nT C G.T.bmain hobj hints (Nat.le_trans hlen hn2) hr hgd hF hb (fun H hH hS => hsp H a ns hlen hH hS)
end LamX
end
section
set_option maxRecDepth 100000
set_option maxHeartbeats 4000000
namespace LamX
open PySem PySem.Spec PySem.Calls PyProof.Rows L2
/-- a law whose code object is not looked at -/
theorem fnG_def0 {P : Program} {w : World} {K : PySem.W.Frag} {mg : Str → Option Value} {base : Heap} {k : Nat} {x : Str} {ps N : List Str} {sp : Sp} {st : Stmt} {f : Addr} {fd : FuncData} (F : FnP K x st f fd)
    (S : FnScope N ps (defScope st)) (len : ∀ vs H Q E, sp vs H Q E → vs.length = ps.length)
    (hbody : ∀ (f : Addr) (cdv : Value) (A : Around) (outer : List Env) (s : Shared) (H : Hp) (vs : List V) (Q : VK), Room k (A.deeper (envOfC x (defScope st) s.heap.objs.size f cdv)) → A.guards = some [] → sp vs H Q E0 →
      ∃ t, PSs (cxOf CX0 P w K mg base N x (defScope st) f cdv A outer s H E0).nox (defBody st) t ∧ t { nx := fun _ H' => Q .non H', rt := Q } (L2.start N vs) H) : FnG P w K mg base (k + 1) f fd ps sp := by
  obtain ⟨oc, od, dV, kV, doc, pm, an, cdv, ct, osl, rfl, lk, hcd, _, _⟩ := F.ex
  constructor
  · exact len
  · intro A outer s H args us vs Q hr hgd e0 hbt r hsp
    refine run_ofS lk hcd S hr e0 hbt r (len _ _ _ _ hsp) fun hr' => ?_
    obtain ⟨t, h, q⟩ := hbody f cdv A outer s H vs Q hr' hgd hsp
    exact ⟨t, h.nox, q⟩
end LamX
end
section
set_option maxRecDepth 100000
set_option maxHeartbeats 4000000
namespace K04
open PySem PySem.Spec PyProof.Rows L2
/-- days and windows handed on as one couple -/
def WorldN (H0 H : Hp) (x : V) (c : Int × List (Int × Int)) : Prop := ∃ t l xs, H0 l ≠ none ∧ x = .ref t ∧ H t = some (.tup [.int c.1, .ref l]) ∧ H l = some (.lst xs) ∧ Paired (PairT H) xs c.2
def WGood (c : Int × List (Int × Int)) : Prop := 1 ≤ c.1 ∧ c.1 ≤ 24 ∧ c.2.length ≤ 120 ∧ ∀ d ∈ c.2, VW c.1 d
theorem WorldN.same {H0 H H' : Hp} {x : V} {c : Int × List (Int × Int)} (e : Same H H') (h : WorldN H0 H x c) : WorldN H0 H' x c := by
  obtain ⟨t, l, xs, h0, h1, h2, h3, h4⟩ := h
  exact ⟨t, l, xs, h0, h1, e _ _ h2, e _ _ h3, Paired.mapP h4 fun _ _ z => z.same e⟩
theorem WorldN.self {H0 H : Hp} {x : V} {c : Int × List (Int × Int)} (h : WorldN H0 H x c) : WorldN H H x c := by
  obtain ⟨t, l, xs, h0, h1, h2, h3, h4⟩ := h
  exact ⟨t, l, xs, (fun z => by rw [h3] at z; cases z), h1, h2, h3, h4⟩
theorem WorldN.bx {H0 H H' : Hp} {sa : Addr} {x : V} {c : Int × List (Int × Int)} (hst : Stk H sa) (n : H0 sa = none) (e : Bx sa H H') (h : WorldN H0 H x c) : WorldN H0 H' x c := by
  obtain ⟨t, l, xs, h0, h1, h2, h3, h4⟩ := h
  have hl : l ≠ sa := fun z => h0 (by rw [z]; exact n)
  exact ⟨t, l, xs, h0, h1, e.tup (ne_stk hst h2 fun _ z => by cases z) h2, e.lst hl h3, Paired.mapP h4 fun _ _ z => z.bx hst e⟩
theorem WorldN.mut {H0 H : Hp} {q : Addr} {ys : List V} {o : HO} {x : V} {c : Int × List (Int × Int)} (n : H0 q = none) (hq : H q = some (.lst ys)) (h : WorldN H0 H x c) : WorldN H0 (upd H q o) x c := by
  obtain ⟨t, l, xs, h0, h1, h2, h3, h4⟩ := h
  refine ⟨t, l, xs, h0, h1, ?_, ?_, Paired.mapP h4 fun _ _ z => z.mut hq⟩
  · rw [upd_ne fun z => by rw [z, hq] at h2; cases h2]
    exact h2
  · rw [upd_ne (fun z => h0 (by rw [z]; exact n))]
    exact h3
/-- a row of windows that was made after H0 -/
def RowN (H0 H : Hp) (x : V) (c : Int × List (Int × Int)) : Prop := ∃ l xs, H0 l = none ∧ x = .ref l ∧ H l = some (.lst xs) ∧ Paired (PairT H) xs c.2
theorem RowN.same {H0 H H' : Hp} {x : V} {c : Int × List (Int × Int)} (e : Same H H') (h : RowN H0 H x c) : RowN H0 H' x c := by
  obtain ⟨l, xs, h0, h1, h2, h3⟩ := h
  exact ⟨l, xs, h0, h1, e _ _ h2, Paired.mapP h3 fun _ _ z => z.same e⟩
/-- the heap without one address -/
def er (w : Addr) (H : Hp) : Hp := fun b => if b = w then none else H b
theorem er_at {w : Addr} {H : Hp} : er w H w = none := by unfold er; rw [if_pos rfl]
theorem WorldN.er {H0 H : Hp} {w : Addr} {x : V} {c : Int × List (Int × Int)} (n : H0 w = none) (h : WorldN H0 H x c) : WorldN (er w H) H x c := by
  obtain ⟨t, l, xs, h0, h1, h2, h3, h4⟩ := h
  refine ⟨t, l, xs, ?_, h1, h2, h3, h4⟩
  unfold K04.er
  rw [if_neg (fun z => h0 (by rw [z]; exact n)), h3]
  exact fun z => by cases z
theorem GardenN.keep {K : PySem.W.Frag} {H0 H H' : Hp} {D p : Addr} {o : HO} {ys : List V} {d : Int} {ws : List (Int × Int)} (hD : H D = some (.lst ys)) (b : But D H H') (h : GardenN K (upd H0 D o) H p d ws) : GardenN K (upd H0 D o) H' p d ws := by
  obtain ⟨dx, l, xs, z0, z1, z2, z3⟩ := h
  refine ⟨dx, l, xs, z0, b _ _ z1 (fun y => by rw [y, hD] at z1; cases z1), b _ _ z2 (fun y => by rw [y, upd_same] at z0; cases z0), Paired.mapP z3 fun _ _ z => ?_⟩
  obtain ⟨u, rfl, z⟩ := z
  exact ⟨u, rfl, b _ _ z fun y => by rw [y, hD] at z; cases z⟩
theorem GardenAt.bx {K : PySem.W.Frag} {H H' : Hp} {sa p : Addr} {d : Int} {ws : List (Int × Int)} (hst : Stk H sa) (b : Bx sa H H') (h : GardenAt K H p d ws) : GardenAt K H' p d ws := by
  obtain ⟨dx, l, xs, h1, h2, h3⟩ := h
  have n1 : p ≠ sa := fun z => by
    obtain ⟨x, y, t, e⟩ := hst
    rw [← z, h1] at e
    cases e
  have n2 : l ≠ sa := fun z => by
    obtain ⟨x, y, t, e⟩ := hst
    rw [← z, h2] at e
    cases e
    cases h3 with
    | cons r _ =>
      obtain ⟨q, e, _⟩ := r
      cases e
  exact ⟨dx, l, xs, b _ _ h1 (fun _ z => by cases z) n1, b.lst n2 h2, Paired.mapP h3 fun _ _ z => z.bx hst b⟩
theorem same_but {H H' H1 H5 : Hp} {p : Addr} (e : Same H H') (n : H' p = none) (s : Same H' H1) (b : But p H1 H5) : Same H H5 := fun c o h => b c o (s _ _ (e _ _ h)) fun z => by rw [← z, e _ _ h] at n; cases n
theorem paired_two {α β : Type} {R : α → β → Prop} {xs : List α} {ys : List β} (h : Paired R xs ys) (n : ys.length = 2) : ∃ x0 x1 y0 y1, xs = [x0, x1] ∧ ys = [y0, y1] ∧ R x0 y0 ∧ R x1 y1 := by
  cases h with
  | nil => cases n
  | cons a r =>
    cases r with
    | nil => cases n
    | cons b q =>
      cases q with
      | nil => exact ⟨_, _, _, _, rfl, rfl, a, b⟩
      | cons _ _ => simp at n
section
variable {P : Program} {w : World} {K : PySem.W.Frag} {mg : Str → Option Value} {base : Heap}
def spLaw (K : PySem.W.Frag) : Sp := fun vs H Q _ => ∃ (a : Addr) (ns : List Int), vs = [.ref a] ∧ SqL K H a (ns.map V.int) ∧ ns.length ≤ 63 ∧ LamX.Tabs (Tl K) H ∧ ∀ H', Q (.bl true) H'
theorem fn_law (T : Txt w K mg) (TB : TabsB K base mg) {f : Addr} {fd : FuncData} (F : FnP K "law" s_law f fd) : FnG P w K mg base 13 f fd ["script"] (spLaw K) := by
  refine LamX.fnG_def0 F sc_law (fun vs H Q E h => ?_) (fun f cdv A outer s H vs Q hr hgd h => ?_)
  · obtain ⟨a, ns, rfl, _⟩ := h
    rfl
  · obtain ⟨a, ns, rfl, hS, hl, hT, k⟩ := h
    let E : XK := E0
    have ok__law_matches := fun (T : Txt w K mg) => ok_mt1 (P := P) (base := base) T
    have ok__law_k04_days := fun (T : Txt w K mg) => K04.ok__law_k04_days (P := P) T TB
    have ok__law_k04_refusals := fun (T : Txt w K mg) => K04.ok__law_k04_refusals (P := P) T TB
    refine ⟨_, (pss_cons (ps_set (i := 1) sc_law.nd rfl (by first | exact Or.inl rfl | exact Or.inr rfl) (pe_ok (ok__law_stock T) (hr.mono (by first | decide | omega)) rfl pass0 (pa_cons (pv 0) (pa_cons pe_int pa_nil))))
      (pss_cons (ps_set (i := 2) sc_law.nd rfl (by first | exact Or.inl rfl | exact Or.inr rfl) (pe_cmpR op_eq (pe_ok (ok__law_draw T) (hr.mono (by first | decide | omega)) rfl pass0 (pa_cons (pv 1) (pa_cons pe_int pa_nil))) pe_int (nomark _)))
      (pss_cons (ps_set (i := 3) sc_law.nd rfl (by first | exact Or.inl rfl | exact Or.inr rfl) (pe_lst pa_nil))
      (pss_cons (ps_for PassesOwn.never rfl (pi_range1 rfl (n_range T) (pa_cons pe_int pa_nil)) (pg_name (i := 4) sc_law.nd rfl (by first | exact Or.inl rfl | exact Or.inr rfl))
        (pss_cons (ps_set (i := 5) sc_law.nd rfl (by first | exact Or.inl rfl | exact Or.inr rfl) (pe_ok (ok__law_stock T) (hr.mono (by first | decide | omega)) rfl pass0 (pa_cons (pv 0) (pa_cons (pv 4) pa_nil))))
      (pss_cons (ps_set (i := 6) sc_law.nd rfl (by first | exact Or.inl rfl | exact Or.inr rfl) (pe_ifExp (PW.pt (pw_and (pt_val (pv 2)) (pw_and1 (pt_cmpR op_eq (pv 4) pe_int (nomark _))))) pe_int (pe_op op_add pe_int (pe_ok (ok__law_draw T) (hr.mono (by first | decide | omega)) rfl pass0 (pa_cons (pv 5) (pa_cons pe_int pa_nil))))))
      (pss_cons (ps_set (i := 7) sc_law.nd rfl (by first | exact Or.inl rfl | exact Or.inr rfl) (pe_ifExp (PW.pt (pw_and (pt_val (pv 2)) (pw_and1 (pt_cmpR op_eq (pv 4) pe_int (nomark _))))) (pe_op op_add pe_int (pe_ok (ok__law_draw T) (hr.mono (by first | decide | omega)) rfl pass0 (pa_cons (pv 5) (pa_cons pe_int pa_nil)))) (pe_ok (ok__law_draw T) (hr.mono (by first | decide | omega)) rfl pass0 (pa_cons (pv 5) (pa_cons pe_int pa_nil)))))
      (pss_one (ps_expr (pe_bm PySem.F.plainAttrs_list PySem.F.slot_list_append PySem.F.type_list_append mt_append (pv 3) (pa_cons (pe_tup (pa_cons (pv 6) (pa_cons (pe_ok (ok__law_b_windows T) (hr.mono (by first | decide | omega)) rfl pass0 (pa_cons (pv 5) (pa_cons (pv 6) (pa_cons (pv 7) pa_nil)))) pa_nil))) pa_nil))))))))
      (pss_cons (ps_set (i := 9) sc_law.nd rfl (by first | exact Or.inl rfl | exact Or.inr rfl) (pe_lc (own := [("world", 8)]) rfl sc_law.nd (pi_listK (K := K) rfl (pv 3)) (blkOk_by (N := ["script", "stock", "great", "worlds", "at", "one", "days", "many", "world", "handed", "made", "third", "row", "turn", "windows", "more"]) (sc := defScope s_law) (by decide +kernel)) (fun _ _ _ _ _ => (pg_name (i := 8) sc_law.nd rfl (by first | exact Or.inl rfl | exact Or.inr rfl))) (fun _ _ _ _ _ => pts_nil) (fun _ _ _ _ _ => (pe_callTy (list_ofK (K := K) rfl) rfl (n_list T) (by decide +kernel) (pa_cons (pe_ix (ix_seqK (K := K) rfl) (pv 8) pe_int (fun _ _ => rfl)) pa_nil)))))
      (pss_cons (ps_setLc (i := 10) (own := [("at", 4)]) rfl sc_law.nd rfl rfl (sw_true rfl rfl rfl (by decide +kernel)) (pi_range1 rfl (n_range T) (pa_cons pe_int pa_nil)) (blkOk_by (N := ["script", "stock", "great", "worlds", "at", "one", "days", "many", "world", "handed", "made", "third", "row", "turn", "windows", "more"]) (sc := defScope s_law) (by decide +kernel)) (fun _ _ _ _ _ => (pg_name (i := 4) sc_law.nd rfl (by first | exact Or.inl rfl | exact Or.inr rfl))) (fun _ _ _ _ _ => pts_nil) (fun _ _ _ _ _ => (pe_okK (okk_Garden T) (hr.mono (by first | decide | omega)) rfl passL (pa_cons (pe_ix (ix_seqK (K := K) rfl) (pe_ix (ix_listK (K := K) rfl) (pv 3) (pv 4) (fun _ _ => rfl)) pe_int (fun _ _ => rfl)) (pa_cons (pe_ix (ix_listK (K := K) rfl) (pv 9) (pv 4) (fun _ _ => rfl)) pa_nil)))))
      (pss_cons (ps_set (i := 11) sc_law.nd rfl (by first | exact Or.inl rfl | exact Or.inr rfl) (pe_ok (ok__law_stock T) (hr.mono (by first | decide | omega)) rfl pass0 (pa_cons (pv 0) (pa_cons pe_int pa_nil))))
      (pss_cons (ps_for PassesOwn.never rfl (pi_range1 rfl (n_range T) (pa_cons pe_int pa_nil)) (pg_name (i := 4) sc_law.nd rfl (by first | exact Or.inl rfl | exact Or.inr rfl))
        (pss_cons (ps_set (i := 12) sc_law.nd rfl (by first | exact Or.inl rfl | exact Or.inr rfl) (pe_ix (ix_listK (K := K) rfl) (pv 9) (pv 4) (fun _ _ => rfl)))
      (pss_cons (ps_if (pt_cmpR (neDK (K := K) rfl hr.units) (pv 12) (pe_ix (ix_seqK (K := K) rfl) (pe_ix (ix_listK (K := K) rfl) (pv 3) (pv 4) (fun _ _ => rfl)) pe_int (fun _ _ => rfl)) (nomark _)) (pss_one (ps_ret pe_bl)) pss_nil)
      (pss_one (ps_expr (pe_bm PySem.F.plainAttrs_list PySem.F.slot_list_append PySem.F.type_list_append mt_append (pv 12) (pa_cons (pe_tup (pa_cons pe_int (pa_cons pe_int pa_nil))) pa_nil)))))))
      (pss_cons (ps_for PassesOwn.never rfl (pi_range1 rfl (n_range T) (pa_cons pe_int pa_nil)) (pg_name (i := 13) sc_law.nd rfl (by first | exact Or.inl rfl | exact Or.inr rfl))
        (pss_one (ps_for PassesOwn.never rfl (pi_range1 rfl (n_range T) (pa_cons pe_int pa_nil)) (pg_name (i := 4) sc_law.nd rfl (by first | exact Or.inl rfl | exact Or.inr rfl))
        (pss_cons (ps_asg (pe_ix (ix_listK (K := K) rfl) (pv 3) (pv 4) (fun _ _ => rfl)) (pg_tupK (K := K) (n := 2) rfl rfl (pgs_cons (pg_name (i := 6) sc_law.nd rfl (by first | exact Or.inl rfl | exact Or.inr rfl)) (pgs_cons (pg_name (i := 14) sc_law.nd rfl (by first | exact Or.inl rfl | exact Or.inr rfl)) pgs_nil))))
      (pss_cons (ps_if (pt_not (pt_val (pe_ok (ok__law_k04_counts T) (hr.mono (by first | decide | omega)) rfl pass0 (pa_cons (pv 6) (pa_cons (pv 14) (pa_cons (pe_ix (ix_listK (K := K) rfl) (pv 10) (pv 4) (fun _ _ => rfl)) pa_nil)))))) (pss_one (ps_ret pe_bl)) pss_nil)
      (pss_one (ps_if (PW.pt (pw_and (pt_cmpR op_eq (pv 13) pe_int (nomark _)) (pw_and1 (pt_not (pt_val (pe_ok (ok__law_k04_serving T) (hr.mono (by first | decide | omega)) rfl pass0 (pa_cons (pv 11) (pa_cons (pv 6) (pa_cons (pv 14) (pa_cons (pe_ix (ix_listK (K := K) rfl) (pv 10) (pv 4) (fun _ _ => rfl)) pa_nil)))))))))) (pss_one (ps_ret pe_bl)) pss_nil)))))))
      (pss_cons (ps_for PassesOwn.never rfl (pi_range1 rfl (n_range T) (pa_cons pe_int pa_nil)) (pg_name (i := 4) sc_law.nd rfl (by first | exact Or.inl rfl | exact Or.inr rfl))
        (pss_cons (ps_asg (pe_ix (ix_listK (K := K) rfl) (pv 3) (pv 4) (fun _ _ => rfl)) (pg_tupK (K := K) (n := 2) rfl rfl (pgs_cons (pg_name (i := 6) sc_law.nd rfl (by first | exact Or.inl rfl | exact Or.inr rfl)) (pgs_cons (pg_name (i := 14) sc_law.nd rfl (by first | exact Or.inl rfl | exact Or.inr rfl)) pgs_nil))))
      (pss_cons (ps_set (i := 15) sc_law.nd rfl (by first | exact Or.inl rfl | exact Or.inr rfl) (pe_ok (ok__law_b_windows T) (hr.mono (by first | decide | omega)) rfl pass0 (pa_cons (pv 11) (pa_cons (pv 6) (pa_cons (pe_callB (call_min2 rfl) rfl (n_min T) (by decide +kernel) (pa_cons (pe_ok (ok__law_draw T) (hr.mono (by first | decide | omega)) rfl pass0 (pa_cons (pv 11) (pa_cons pe_int pa_nil))) (pa_cons (pe_op op_sub pe_int (pe_callB (len_seqK (K := K) rfl) rfl (n_len T) (by decide +kernel) (pa_cons (pv 14) pa_nil))) pa_nil))) pa_nil)))))
      (pss_cons (ps_if (pt_not (pt_val (pe_ok (ok__law_k04_changed T) (hr.mono (by first | decide | omega)) rfl pass0 (pa_cons (pv 6) (pa_cons (pv 14) (pa_cons (pe_ix (ix_listK (K := K) rfl) (pv 10) (pv 4) (fun _ _ => rfl)) (pa_cons (pv 15) pa_nil))))))) (pss_one (ps_ret pe_bl)) pss_nil)
      (pss_cons (ps_if (PW.pt (pw_or (pt_not (pt_val (pe_ok (ok__law_k04_days T) (hr.mono (by first | decide | omega)) rfl pass0 (pa_cons (pv 6) (pa_cons (pe_ix (ix_listK (K := K) rfl) (pv 10) (pv 4) (fun _ _ => rfl)) pa_nil))))) (pw_or1 (pt_not (pt_val (pe_ok (ok__law_k04_refusals T) (hr.mono (by first | decide | omega)) rfl pass0 (pa_cons (pv 11) (pa_cons (pv 6) (pa_cons (pv 14) (pa_cons (pe_ix (ix_listK (K := K) rfl) (pv 10) (pv 4) (fun _ _ => rfl)) pa_nil)))))))))) (pss_one (ps_ret pe_bl)) pss_nil)
      (pss_one (ps_if (pt_not (pt_val (pe_ok (ok__law_k04_counts T) (hr.mono (by first | decide | omega)) rfl pass0 (pa_cons (pv 6) (pa_cons (pv 14) (pa_cons (pe_ix (ix_listK (K := K) rfl) (pv 10) (pv 4) (fun _ _ => rfl)) pa_nil)))))) (pss_one (ps_ret pe_bl)) pss_nil)))))))
      (pss_one (ps_ret pe_bl)))))))))))), ?_⟩
    refine ⟨_, rfl, a, ns, 0, rfl, hS, hl, by decide, by decide, fun st H1 hst0 s1 hst1 => ?_⟩
    refine nxE (st_let (fun v H2 => ∃ g, v = .bl g ∧ Same H H2) (fun R hR => ?_) (fun v H2 hv => ?_))
    · exact ⟨_, rfl, st, 12, rfl, by decide, by decide, hst1, fun r x y z r0 r1 => ⟨rfl, hR _ _ ⟨_, rfl, same_but (Same.refl H) hst0 s1 (But.refl st H1).upd⟩⟩⟩
    obtain ⟨g, rfl, s2⟩ := hv
    refine ⟨(by show 0 ≤ sizeLine; decide), fun wl hwl => ?_⟩
    obtain ⟨s3, g3⟩ := new2 (.lst []) hwl
    have s3 := s2.trans s3
    generalize upd H2 wl (.lst []) = H3 at s3 g3 ⊢
    have hwl0 : H wl = none := none_of s2 hwl
    -- the worlds
    refine ⟨_, rfl, by decide, by decide, for_upto (lo := 0) (L := 2) rfl (fun j σ H' => ∃ v4 v5 v6 v7, σ = [some (.ref a), some (.ref st), some (.bl g), some (.ref wl), v4, v5, v6, v7, none, none, none, none, none, none, none, none] ∧ Same H H' ∧ ∃ acc cs, H' wl = some (.lst acc) ∧ Paired (WorldN (er wl H') H') acc cs ∧ cs.length = j ∧ ∀ c ∈ cs, WGood c) ⟨_, _, _, _, rfl, s3, [], [], g3, .nil, rfl, fun c hc => by cases hc⟩ ?_ ?_⟩
    · rintro j σ H' hj ⟨v4, v5, v6, v7, rfl, e, acc, cs, hw, hW, hcs, hG⟩
      refine ⟨_, rfl, _, rfl, a, ns, _, rfl, e.seq hS, hl, by omega, by omega, fun sa H4 hsa s4 hst4 => ?_⟩
      refine nxE (st_let (fun v H5 => ∃ d, v = .int d ∧ 1 ≤ d ∧ d ≤ 24 ∧ But sa H4 H5 ∧ Stk H5 sa) (fun R hR => ?_) (fun v H5 hv => ?_))
      · have other : R (.int 24) H4 ∧ ∀ r x y z, 0 ≤ r → r < 5 → R (.int (3 + r)) (upd H4 sa (stk x y z)) := ⟨hR _ _ ⟨24, rfl, by decide, by decide, But.refl sa H4, hst4⟩, fun r x y z r0 r1 => hR _ _ ⟨_, rfl, by omega, by omega, (But.refl sa H4).upd, stk_upd⟩⟩
        cases g with
        | false => exact ⟨_, rfl, _, rfl, _, rfl, sa, 5, rfl, by decide, by decide, hst4, fun r x y z r0 r1 => ⟨_, _, rfl, rfl, other.2 r x y z r0 r1⟩⟩
        | true => exact ⟨_, rfl, _, rfl, _, rfl, rfl, _, rfl, ite2 (fun _ => other.1) (fun _ => ⟨_, rfl, sa, 5, rfl, by decide, by decide, hst4, fun r x y z r0 r1 => ⟨_, _, rfl, rfl, other.2 r x y z r0 r1⟩⟩)⟩
      obtain ⟨d, rfl, d1, d2, b5, hst5⟩ := hv
      refine st_let (fun v H6 => ∃ n, v = .int n ∧ 0 ≤ n ∧ n ≤ 120 ∧ But sa H5 H6 ∧ Stk H6 sa) (fun R hR => ?_) (fun v H6 hv => ?_)
      · have other : (∀ r x y z, 0 ≤ r → r < 21 → R (.int (100 + r)) (upd H5 sa (stk x y z))) ∧ ∀ r x y z, 0 ≤ r → r < 10 → R (.int r) (upd H5 sa (stk x y z)) := ⟨fun r x y z r0 r1 => hR _ _ ⟨_, rfl, by omega, by omega, (But.refl sa H5).upd, stk_upd⟩, fun r x y z r0 r1 => hR _ _ ⟨_, rfl, by omega, by omega, (But.refl sa H5).upd, stk_upd⟩⟩
        cases g with
        | false => exact ⟨_, rfl, _, rfl, _, rfl, sa, 10, rfl, by decide, by decide, hst5, fun r x y z r0 r1 => other.2 r x y z r0 r1⟩
        | true => exact ⟨_, rfl, _, rfl, _, rfl, rfl, _, rfl, ite2 (fun _ => ⟨_, rfl, sa, 21, rfl, by decide, by decide, hst5, fun r x y z r0 r1 => ⟨_, _, rfl, rfl, other.1 r x y z r0 r1⟩⟩) (fun _ => ⟨_, rfl, sa, 10, rfl, by decide, by decide, hst5, fun r x y z r0 r1 => other.2 r x y z r0 r1⟩)⟩
      obtain ⟨n, rfl, n1, n2, b6, hst6⟩ := hv
      have b46 := b5.trans b6
      have nwl : wl ≠ sa := fun z => by rw [z] at hw; rw [hw] at hsa; cases hsa
      have hw6 := b46 _ _ (s4 _ _ hw) nwl
      refine ⟨_, rfl, .inl ⟨rfl, _, SqL.of hw6⟩, _, rfl, _, rfl, _, rfl, _, rfl, sa, d, n, rfl, d1, d2, n1, by omega, hst6, fun l xs ws H7 hl7 b7 hst7 hL7 hP7 hlen hV => ⟨(by show 2 ≤ sizeLine; decide), fun t ht => ?_⟩⟩
      obtain ⟨s8, g8⟩ := new2 (.tup [.int d, .ref l]) ht
      have b47 := b46.trans b7
      have hw7 := b47 _ _ (s4 _ _ hw) nwl
      have e7 : Same H' H7 := same_but (Same.refl H') hsa s4 b47
      refine ⟨wl, acc, _, rfl, rfl, s8 _ _ hw7, line_lt (by rw [Paired.length hW]; omega), ?_⟩
      have e8 := e7.trans s8
      have hl8 := s8 _ _ hL7
      have hP8 := Paired.mapP hP7 fun _ _ z => z.same s8
      have nlw : l ≠ wl := fun z => by rw [z] at hL7; rw [z] at hl7; rw [b46 _ _ (s4 _ _ hw) nwl] at hl7; cases hl7
      have one : WorldN (er wl (upd H7 t (.tup [.int d, .ref l]))) (upd H7 t (.tup [.int d, .ref l])) (.ref t) (d, ws) := by
        refine ⟨t, l, xs, ?_, rfl, g8, hl8, hP8⟩
        unfold er
        rw [if_neg nlw, hl8]
        exact fun z => by cases z
      have w8 := s8 _ _ hw7
      have m9 := same_mut (o := .lst (acc ++ [V.ref t])) (e.trans e8) hwl0
      have hW9 : Paired (WorldN (er wl (upd H7 t (.tup [.int d, .ref l]))) (upd (upd H7 t (.tup [.int d, .ref l])) wl (.lst (acc ++ [V.ref t])))) (acc ++ [V.ref t]) (cs ++ [(d, ws)]) :=
        paired_snoc (Paired.mapP hW fun _ _ z => ((z.same e8).er er_at).mut er_at w8) (one.mut er_at w8)
      refine ⟨_, _, _, _, rfl, m9, _, _, upd_same, Paired.mapP hW9 fun _ _ z => z.er er_at, by rw [List.length_append, hcs]; rfl, fun c hc => ?_⟩
      rcases List.mem_append.mp hc with hc | hc
      · exact hG c hc
      · rw [List.mem_singleton.mp hc]
        exact ⟨d1, d2, by show ws.length ≤ 120; omega, hV⟩
    · rintro σ H4 ⟨v4, v5, v6, v7, rfl, s4, xw, cs, hw, hW, hcs, hGd⟩
      have hW := Paired.mapP hW fun _ _ z => z.self
      have T4 := hT.ext s4
      have hxw : xw.length = 2 := by rw [Paired.length hW]; exact hcs
      clear s3 g3 s2 hst1 s1
      -- handed
      refine ⟨_, rfl, wl, rfl, ⟨_, SqL.of hw⟩, fun D hD => lc_acc (K := K) (a := wl) (xs := xw) hD (SqL.of hw) (by omega) (fun j acc H2 => Paired (RowN (upd H4 D (.lst [])) H2) acc (cs.take j) ∧ acc.Nodup) (fun _ _ => ⟨.nil, List.nodup_nil⟩) ?_ ?_⟩
      · rintro j x acc H2 N N0 hx s2 hacc ⟨hI, hnd⟩ hN hN0
        obtain ⟨c, hc, hr⟩ := paired_get hW hx
        obtain ⟨t, l, xs, _, rfl, w2, w3, w4⟩ := hr.same s2
        refine ⟨rfl, ?_⟩
        refine ⟨_, rfl, .inr (.inl ⟨t, _, 1, _, rfl, rfl, SqT.of w2, rfl, ⟨l, xs, rfl, .inl (SqL.of w3), fun h hh => ?_⟩⟩)⟩
        obtain ⟨s3, g3⟩ := new2 (.lst xs) hh
        have hD2 : h ≠ D := fun z => by rw [z, hacc] at hh; cases hh
        refine hN _ _ s3 fun H5 b5 _ => ?_
        rw [take_get hc]
        have h5 : ∀ {x : V} {c : Int × Int}, PairT H2 x c → PairT H5 x c := fun z => by
          obtain ⟨u, rfl, z⟩ := z
          exact ⟨u, rfl, b5 _ _ (s3 _ _ z) fun y => by rw [y, hacc] at z; cases z⟩
        refine ⟨paired_snoc (Paired.mapP hI fun _ _ z => ?_) ⟨h, xs, by rw [upd_ne hD2]; exact none_of s2 hh, rfl, b5 _ _ g3 hD2, Paired.mapP w4 fun _ _ z => h5 z⟩, ?_⟩
        · obtain ⟨l', xs', q0, rfl, q1, q2⟩ := z
          exact ⟨l', xs', q0, rfl, b5 _ _ (s3 _ _ q1) (fun y => by rw [y, upd_same] at q0; cases q0), Paired.mapP q2 fun _ _ z => h5 z⟩
        · rw [List.nodup_append]
          refine ⟨hnd, by simp, fun x hx y hy => ?_⟩
          rw [List.mem_singleton.mp hy]
          obtain ⟨c', _, l', xs', q0, rfl, q1, q2⟩ := paired_mem hI hx
          intro z
          cases z
          rw [q1] at hh
          cases hh
      · rintro acc H5 s5 hacc hal ⟨hI, hnd⟩
        rw [hxw, ← hcs, List.take_length] at hI
        have hW5 := Paired.mapP hW fun _ _ z => z.same s5
        have e5 := s4.trans s5
        have hw5 := s5 _ _ hw
        have hacl : acc.length = 2 := by rw [Paired.length hI]; exact hcs
        -- the gardens
        refine ⟨_, rfl, by decide, by decide, fun G hG => lc_upto (lo := 0) (L := 2) rfl hG (by omega) (fun j gs H2 => Paired (fun x c => ∃ p, x = V.ref p ∧ GardenN K (upd H5 G (.lst [])) H2 p c.1 c.2) gs (cs.take j)) (fun _ _ => .nil) ?_ ?_⟩
        · rintro j gs H6 N N0 hj s6 hgs hI6 hN hN0
          obtain ⟨c, hc⟩ : ∃ c, cs[j]? = some c := ⟨cs[j], List.getElem?_eq_getElem (by omega)⟩
          obtain ⟨x, hx⟩ : ∃ x, xw[j]? = some x := ⟨xw[j]'(by omega), List.getElem?_eq_getElem _⟩
          obtain ⟨y, hy⟩ : ∃ y, acc[j]? = some y := ⟨acc[j]'(by omega), List.getElem?_eq_getElem _⟩
          obtain ⟨c', hc', hr⟩ := paired_get hW5 hx
          rw [hc] at hc'
          cases hc'
          obtain ⟨c', hc', hro⟩ := paired_get hI hy
          rw [hc] at hc'
          cases hc'
          obtain ⟨t, l, xs, _, rfl, w2, w3, w4⟩ := hr.same s6
          obtain ⟨h, xs', q0, rfl, q1, q2⟩ := hro
          have q1 := s6 _ _ q1
          have q2 := Paired.mapP q2 fun _ _ z => z.same s6
          have hgc : WGood c := hGd c (List.mem_of_getElem? hc)
          obtain ⟨c1, c2, c3, c4⟩ := hgc
          refine ⟨rfl, ?_⟩
          refine ⟨_, rfl, _, rfl, wl, _, _, _, rfl, rfl, SqL.of (s6 _ _ hw5), at_of (by omega) hx, .inr (.inl ⟨t, _, 0, _, rfl, rfl, SqT.of w2, rfl, ?_⟩)⟩
          refine ⟨_, rfl, _, rfl, D, _, _, _, rfl, rfl, SqL.of (s6 _ _ hacc), at_of (by omega) hy, ?_⟩
          have hxs' : xs'.length ≤ 120 := by rw [Paired.length q2]; exact c3
          refine made (K := K) (E := E0) (Q := N) q1 q2 (by omega) (GErr.ok c1 c2 c3 c4) fun _ _ _ _ gp H7 hgp s7 hN7 => ?_
          refine hN _ _ s7 fun H8 b8 _ => ?_
          rw [take_get hc]
          refine paired_snoc (Paired.mapP hI6 fun _ _ z => ?_) ⟨gp, rfl, GardenN.keep (s7 _ _ hgs) b8 ?_⟩
          · obtain ⟨p, rfl, z⟩ := z
            exact ⟨p, rfl, GardenN.keep (s7 _ _ hgs) b8 (z.same s7)⟩
          · obtain ⟨dx, l, xs, z0, z⟩ := hN7
            exact ⟨dx, l, xs, by rw [upd_ne (fun y => by rw [y, hgs] at z0; cases z0)]; exact none_of s6 z0, z⟩
        · rintro gs H6 s6 hgs hgl hI6
          rw [← hcs, List.take_length] at hI6
          have hI6 := Paired.mapP hI6 fun (x : V) (c : Int × List (Int × Int)) (z : ∃ p, x = V.ref p ∧ GardenN K (upd H5 G (.lst [])) H6 p c.1 c.2) => (by
            obtain ⟨p, rfl, dx, l, xs, z0, z⟩ := z
            exact ⟨p, rfl, dx, l, xs, by rw [upd_ne (fun y => by rw [y, upd_same] at z0; cases z0)] at z0; exact z0, z⟩ : ∃ p, x = V.ref p ∧ GardenN K H5 H6 p c.1 c.2)
          have e6 := e5.trans s6
          -- third
          refine ⟨_, rfl, a, ns, 2, rfl, e6.seq hS, hl, by decide, by decide, fun th H7 hth s7 hth7 => ?_⟩
          have e7 := e6.trans s7
          have hw7 := s7 _ _ (s6 _ _ hw5)
          have hh7 := s7 _ _ (s6 _ _ hacc)
          have hg7 := s7 _ _ hgs
          have hW7 := Paired.mapP hW5 fun _ _ z => (z.same s6).same s7
          have hR7 := Paired.mapP hI fun _ _ z => z.same (s6.trans s7)
          have hG7 := Paired.mapP hI6 fun (x : V) (c : Int × List (Int × Int)) (z : ∃ p, x = V.ref p ∧ GardenN K H5 H6 p c.1 c.2) => (by
            obtain ⟨p, rfl, z⟩ := z
            exact ⟨p, rfl, z.same s7⟩ : ∃ p, x = V.ref p ∧ GardenN K H5 H7 p c.1 c.2)
          obtain ⟨x0, x1, c0, c1, rfl, rfl, wx0, wx1⟩ := paired_two hW7 hcs
          obtain ⟨g0, g1, _, _, rfl, ec, gx0, gx1⟩ := paired_two hG7 hcs
          cases ec
          obtain ⟨r0, r1, _, _, rfl, ec, rx0, rx1⟩ := paired_two hR7 hcs
          cases ec
          have hI5 := hI
          obtain ⟨h0, y0, p00, rfl, p01, p02⟩ := rx0
          obtain ⟨h1, y1, p10, rfl, p11, p12⟩ := rx1
          have q0 : H5 h0 ≠ none := by
            cases hI5 with
            | cons a r =>
              obtain ⟨l, xs, _, e, z, _⟩ := a
              cases e
              rw [z]
              exact fun z => by cases z
          have q1 : H5 h1 ≠ none := by
            cases hI5 with
            | cons a r =>
              cases r with
              | cons b r =>
                obtain ⟨l, xs, _, e, z, _⟩ := b
                cases e
                rw [z]
                exact fun z => by cases z
          have n01 : h0 ≠ h1 := fun z => by rw [z] at hnd; simp at hnd
          have nD0 : h0 ≠ D := fun z => by rw [z, upd_same] at p00; cases p00
          have nD1 : h1 ≠ D := fun z => by rw [z, upd_same] at p10; cases p10
          rw [upd_ne nD0] at p00
          rw [upd_ne nD1] at p10
          let Fac : Hp → Prop := fun H' => Same H H' ∧ H' wl = some (.lst [x0, x1]) ∧ H' D = some (.lst [V.ref h0, V.ref h1]) ∧ H' G = some (.lst [g0, g1]) ∧ WorldN H4 H' x0 c0 ∧ WorldN H4 H' x1 c1 ∧ (∃ p, g0 = V.ref p ∧ GardenN K H5 H' p c0.1 c0.2) ∧ (∃ p, g1 = V.ref p ∧ GardenN K H5 H' p c1.1 c1.2) ∧ Stk H' th
          have fac7 : Fac H7 := ⟨e7, hw7, hh7, hg7, wx0, wx1, gx0, gx1, hth7⟩
          have fac_same : ∀ {H' H''}, Fac H' → Same H' H'' → Fac H'' := fun ⟨f1, f2, f3, f4, f5, f6, ⟨g, f7, f7'⟩, ⟨g', f8, f8'⟩, f9⟩ s => ⟨f1.trans s, s _ _ f2, s _ _ f3, s _ _ f4, f5.same s, f6.same s, ⟨g, f7, f7'.same s⟩, ⟨g', f8, f8'.same s⟩, f9.same s⟩
          have fac_mut : ∀ {H' : Hp} {h : Addr} {ys : List V} {o : HO}, h = h0 ∨ h = h1 → H' h = some (.lst ys) → Fac H' → Fac (upd H' h o) := fun {H' h ys o} hh hy ⟨f1, f2, f3, f4, f5, f6, ⟨g, f7, f7'⟩, ⟨g', f8, f8'⟩, f9⟩ => by
            have m4 : H4 h = none := by rcases hh with rfl | rfl <;> assumption
            have m5 : H5 h ≠ none := by rcases hh with rfl | rfl <;> assumption
            have mD : D ≠ h := by rcases hh with rfl | rfl <;> exact fun z => by first | exact nD0 z.symm | exact nD1 z.symm
            have mw : wl ≠ h := fun z => by rw [← z, hw] at m4; cases m4
            have mG : G ≠ h := fun z => m5 (by rw [← z]; exact hG)
            have mt : th ≠ h := fun z => by rw [z] at hth; exact m5 (none_of s6 hth)
            refine ⟨same_mut f1 (none_of s4 m4), ?_, ?_, ?_, f5.mut m4 hy, f6.mut m4 hy, ⟨g, f7, f7'.mut m5 hy⟩, ⟨g', f8, f8'.mut m5 hy⟩, f9.but mt⟩
            · rw [upd_ne mw]; exact f2
            · rw [upd_ne mD]; exact f3
            · rw [upd_ne mG]; exact f4
          refine ⟨_, rfl, by decide, by decide, for_upto (lo := 0) (L := 2) rfl (fun j σ H' => ∃ v4 v12, σ = [some (.ref a), some (.ref st), some (.bl g), some (.ref wl), v4, v5, v6, v7, none, some (.ref D), some (.ref G), some (.ref th), v12, none, none, none] ∧ Fac H' ∧ (j ≤ 0 → H' h0 = some (.lst y0) ∧ Paired (PairT H') y0 c0.2) ∧ (j ≤ 1 → H' h1 = some (.lst y1) ∧ Paired (PairT H') y1 c1.2)) ⟨_, _, rfl, fac7, fun _ => ⟨p01, p02⟩, fun _ => ⟨p11, p12⟩⟩ ?_ ?_⟩
          · rintro j σ H' hj ⟨v4, v12, rfl, fac, r0, r1⟩
            obtain ⟨h, x, y, c, hhh, hx, hy, wx, hy1, hy2, hc2, nxt⟩ : ∃ (h : Addr) (x : V) (y : List V) (c : Int × List (Int × Int)), (h = h0 ∨ h = h1) ∧ ([x0, x1] : List V)[j]? = some x ∧ ([V.ref h0, V.ref h1] : List V)[j]? = some (V.ref h) ∧ WorldN H4 H' x c ∧ H' h = some (.lst y) ∧ Paired (PairT H') y c.2 ∧ c.2.length ≤ 120 ∧ (j + 1 ≤ 1 → h1 ≠ h ∧ j + 1 = 1) ∧ ¬ (j + 1 ≤ 0) := by
              rcases j with _ | _ | j
              · exact ⟨h0, x0, y0, c0, .inl rfl, rfl, rfl, fac.2.2.2.2.1, (r0 (Nat.le_refl _)).1, (r0 (Nat.le_refl _)).2, (hGd c0 (by simp)).2.2.1, fun _ => ⟨n01.symm, rfl⟩, by omega⟩
              · exact ⟨h1, x1, y1, c1, .inr rfl, rfl, rfl, fac.2.2.2.2.2.1, (r1 (Nat.le_refl _)).1, (r1 (Nat.le_refl _)).2, (hGd c1 (by simp)).2.2.1, fun z => by omega, by omega⟩
              · omega
            obtain ⟨t, l, xs, _, rfl, w2, w3, w4⟩ := wx
            have hyl : y.length ≤ 120 := by rw [Paired.length hy2]; exact hc2
            refine ⟨_, rfl, _, rfl, D, _, _, _, rfl, rfl, SqL.of fac.2.2.1, at_of (by omega) hy, ?_⟩
            refine ⟨_, rfl, _, rfl, _, rfl, wl, _, _, _, rfl, rfl, SqL.of fac.2.1, at_of (by omega) hx, .inr (.inl ⟨t, _, 1, _, rfl, rfl, SqT.of w2, rfl, ?_⟩)⟩
            refine ne_pairs hy1 w3 hy2 w4 ⟨_, rfl, ?_⟩
            refine ⟨_, rfl, .inl ⟨rfl, _, SqL.of hy1⟩, (by show 2 ≤ sizeLine; decide), fun t2 ht2 => ?_⟩
            obtain ⟨s8, g8⟩ := new2 (.tup [.int 1, .int 1]) ht2
            refine ⟨h, y, _, rfl, rfl, s8 _ _ hy1, line_lt (by omega), ?_⟩
            refine ⟨_, _, rfl, fac_mut hhh (s8 _ _ hy1) (fac_same fac s8), fun z => absurd z nxt.2, fun z => ?_⟩
            obtain ⟨n1, jj⟩ := nxt.1 z
            obtain ⟨k1, k2⟩ := r1 (by omega)
            exact ⟨by rw [upd_ne n1]; exact s8 _ _ k1, Paired.mapP k2 fun _ _ z => (z.same s8).mut (s8 _ _ hy1)⟩
          · rintro σ H8 ⟨v4, v12, rfl, fac, _, _⟩
            obtain ⟨f1, f2, f3, f4, f5, f6, f7, f8, f9⟩ := fac
            have T8 := hT.ext f1
            have hth4 : H4 th = none := none_of (s5.trans s6) hth
            have hWs : Paired (WorldN H4 H8) [x0, x1] [c0, c1] := .cons f5 (.cons f6 .nil)
            have hGs : Paired (fun x c => ∃ p, x = V.ref p ∧ GardenAt K H8 p c.1 c.2) [g0, g1] [c0, c1] := by
              obtain ⟨p, e, z⟩ := f7
              obtain ⟨p', e', z'⟩ := f8
              exact .cons ⟨p, e, z.at⟩ (.cons ⟨p', e', z'.at⟩ .nil)
            have nwl : wl ≠ th := fun z => by rw [z] at hw; rw [hw] at hth4; cases hth4
            have nG : G ≠ th := fun z => by rw [z] at hgs; rw [hgs] at hth; cases hth
            clear fac_mut fac_same fac7 f3 f5 f6 f7 f8
            clear hI5 hR7 hG7 hW7 hI6 hgs hgl hI hacc hnd hal hacl hW5
            generalize hxs : ([x0, x1] : List V) = xw2 at f2 hWs hw hW hxw
            generalize hgs' : ([g0, g1] : List V) = gs2 at f4 hGs
            generalize hcs' : ([c0, c1] : List (Int × List (Int × Int))) = cs2 at hWs hGs hGd hW hcs
            have hxl : xw2.length = 2 := hxw
            have hgl : gs2.length = 2 := by rw [Paired.length hGs]; exact hcs
            -- looking one world up
            have look : ∀ (j : Nat) (H' : Hp), j < 2 → Bx th H8 H' → ∃ t l p xs c, xw2[j]? = some (V.ref t) ∧ gs2[j]? = some (V.ref p) ∧ H' t = some (.tup [.int c.1, .ref l]) ∧ l ≠ th ∧ H' l = some (.lst xs) ∧ Paired (PairT H') xs c.2 ∧ GardenAt K H' p c.1 c.2 ∧ WGood c := fun j H' hj b => by
              obtain ⟨c, hc⟩ : ∃ c, cs2[j]? = some c := ⟨cs2[j], List.getElem?_eq_getElem (by omega)⟩
              obtain ⟨x, hx⟩ : ∃ x, xw2[j]? = some x := ⟨xw2[j]'(by omega), List.getElem?_eq_getElem _⟩
              obtain ⟨y, hy⟩ : ∃ y, gs2[j]? = some y := ⟨gs2[j]'(by omega), List.getElem?_eq_getElem _⟩
              obtain ⟨c', hc', hr⟩ := paired_get hWs hx
              rw [hc] at hc'
              cases hc'
              obtain ⟨c', hc', p, rfl, hro⟩ := paired_get hGs hy
              rw [hc] at hc'
              cases hc'
              obtain ⟨t, l, xs, n0, rfl, w2, w3, w4⟩ := hr.bx f9 hth4 b
              exact ⟨t, l, p, xs, c, hx, hy, w2, fun z => n0 (by rw [z]; exact hth4), w3, w4, hro.bx f9 b, hGd c (List.mem_of_getElem? hc)⟩
            refine ⟨_, rfl, by decide, by decide, for_upto (lo := 0) (L := 2) rfl (fun j σ H' => ∃ v4 v6 v13 v14, σ = [some (.ref a), some (.ref st), some (.bl g), some (.ref wl), v4, v5, v6, v7, none, some (.ref D), some (.ref G), some (.ref th), v12, v13, v14, none] ∧ But th H8 H' ∧ Stk H' th) ⟨_, _, _, _, rfl, But.refl th H8, f9⟩ ?_ ?_⟩
            · rintro j σ H' hj ⟨v4, v6, v13, v14, rfl, b, hst⟩
              refine ⟨_, rfl, by decide, by decide, for_upto (lo := 0) (L := 2) rfl (fun i σ H' => ∃ v4 v6 v14, σ = [some (.ref a), some (.ref st), some (.bl g), some (.ref wl), v4, v5, v6, v7, none, some (.ref D), some (.ref G), some (.ref th), v12, some (.int (0 + (j : Int))), v14, none] ∧ But th H8 H' ∧ Stk H' th) ⟨_, _, _, rfl, b, hst⟩ ?_ ?_⟩
              · rintro i σ H' hi ⟨v4, v6, v14, rfl, b, hst⟩
                obtain ⟨t, l, p, xs, c, hx, hp, ht, hlt, hl', hP, hGa, hgd⟩ := look i H' hi (Bx.of_but b)
                obtain ⟨c1, c2, c3, c4⟩ := hgd
                have hg' := b _ _ f4 nG
                refine ⟨_, rfl, _, rfl, wl, _, _, _, rfl, rfl, SqL.of (b _ _ f2 nwl), at_of (by omega) hx, ⟨t, _, rfl, SqT.of ht, rfl, _, _, rfl, _, _, rfl, rfl, ?_⟩⟩
                refine ⟨_, rfl, _, rfl, _, rfl, _, rfl, G, _, _, _, rfl, rfl, SqL.of hg', at_of (by omega) hp, ?_⟩
                refine ⟨_, l, xs, c.2, p, rfl, hl', hP, hGa, c1, c2, c3, c4, fun H9 s9 => ⟨_, rfl, ?_⟩⟩
                have b9 := b.trans (But.of s9)
                have hst9 := hst.same s9
                refine ⟨_, rfl, rfl, _, rfl, ite2 (fun _ => ?_) (fun _ => ⟨_, _, _, rfl, b9, hst9⟩)⟩
                refine ⟨_, rfl, _, rfl, _, rfl, _, rfl, _, rfl, G, _, _, _, rfl, rfl, SqL.of (s9 _ _ hg'), at_of (by omega) hp, ?_⟩
                exact ⟨th, _, l, xs, c.2, p, rfl, s9 _ _ hl', Paired.mapP hP fun _ _ z => z.same s9, hGa.same s9, c1, c2, c3, c4, hlt, hst9, fun H10 b10 hst10 => ⟨_, rfl, _, _, _, rfl, b9.trans b10, hst10⟩⟩
              · rintro σ H' ⟨v4, v6, v14, rfl, b, hst⟩
                exact ⟨_, _, _, _, rfl, b, hst⟩
            · rintro σ H9 ⟨v4, v6, v13, v14, rfl, b9, hst9⟩
              have T9 := tabs_but T8 f9 b9
              refine ⟨_, rfl, by decide, by decide, for_upto (lo := 0) (L := 2) rfl (fun j σ H' => ∃ v4 v6 v14 v15, σ = [some (.ref a), some (.ref st), some (.bl g), some (.ref wl), v4, v5, v6, v7, none, some (.ref D), some (.ref G), some (.ref th), v12, v13, v14, v15] ∧ Bx th H8 H' ∧ Stk H' th ∧ LamX.Tabs (Tl K) H') ⟨_, _, _, _, rfl, Bx.of_but b9, hst9, T9⟩ ?_ (fun σ H' _ => k H')⟩
              rintro j σ H' hj ⟨v4, v6, v14, v15, rfl, b, hst, hTa⟩
              obtain ⟨t, l, p, xs, c, hx, hp, ht, hlt, hl', hP, hGa, hgd⟩ := look j H' hj b
              obtain ⟨c1, c2, c3, c4⟩ := hgd
              have hg' := b.lst nG f4
              have hxs : xs.length ≤ 120 := by rw [Paired.length hP]; exact c3
              refine ⟨_, rfl, _, rfl, wl, _, _, _, rfl, rfl, SqL.of (b.lst nwl f2), at_of (by omega) hx, ⟨t, _, rfl, SqT.of ht, rfl, _, _, rfl, _, _, rfl, rfl, ?_⟩⟩
              refine ⟨_, rfl, _, rfl, _, rfl, th, 4, rfl, by decide, by decide, hst, fun r x y z r0 r1 => ⟨_, rfl, l, xs, rfl, .inl (SqL.of ?_), _, _, rfl, rfl, _, _, rfl, ?_⟩⟩
              · exact (Bx.of_but (But.refl th H').upd).lst hlt hl'
              have b1 : But th H' (upd H' th (stk x y z)) := (But.refl th H').upd
              have hst1 : Stk (upd H' th (stk x y z)) th := stk_upd
              generalize upd H' th (stk x y z) = H10 at b1 hst1 ⊢
              rw [min2]
              refine ⟨th, c.1, _, rfl, c1, c2, by omega, by omega, hst1, fun m ys ms H11 hm b2 hst2 hm2 hMs hlen hVm => ?_⟩
              have B1 : Bx th H' H11 := Bx.of_but (b1.trans b2)
              have T11 := tabs_but hTa hst (b1.trans b2)
              have hl11 := B1.lst hlt hl'
              have hP11 := Paired.mapP hP fun _ _ z => z.bx hst B1
              have hGa11 := hGa.bx hst B1
              have hg11 := B1.lst nG hg'
              refine ⟨_, rfl, _, rfl, _, rfl, _, rfl, G, _, _, _, rfl, rfl, SqL.of hg11, at_of (by omega) hp, ?_⟩
              refine ⟨_, rfl, c.1, l, xs, c.2, p, m, ys, ms, rfl, hl11, hP11, hGa11, c1, c2, (by rw [List.length_append]; have := Paired.length hP; omega), (fun d hd => ?_), hm2, hMs, fun H12 s12 => ⟨_, rfl, ?_⟩⟩
              · rcases List.mem_append.mp hd with hd | hd
                · exact c4 d hd
                · exact hVm d hd
              have T12 := T11.ext s12
              have hg12 := s12 _ _ hg11
              refine ⟨_, rfl, _, rfl, _, rfl, G, _, _, _, rfl, rfl, SqL.of hg12, at_of (by omega) hp, ?_⟩
              refine ⟨c.1, c.2, p, rfl, hGa11.same s12, c1, c2, c3, c4, T12, fun H13 e13 T13 => ⟨_, rfl, ?_⟩⟩
              have B13 : Bx th H' H13 := B1.trans ((Bx.of_same s12).trans (Bx.of_ext e13))
              have hst13 : Stk H13 th := Stk.ext (hst2.same s12) e13
              refine ⟨_, rfl, _, rfl, _, rfl, _, rfl, _, rfl, G, _, _, _, rfl, rfl, SqL.of (B13.lst nG hg'), at_of (by omega) hp, ?_⟩
              refine ⟨th, c.1, l, xs, c.2, p, rfl, B13.lst hlt hl', Paired.mapP hP fun _ _ z => z.bx hst B13, hGa.bx hst B13, c1, c2, c3, c4, hlt, hst13, T13, fun H14 b14 hst14 T14 => ⟨_, rfl, ?_⟩⟩
              have B14 := B13.trans b14
              refine ⟨_, rfl, _, rfl, _, rfl, _, rfl, G, _, _, _, rfl, rfl, SqL.of (B14.lst nG hg'), at_of (by omega) hp, ?_⟩
              refine ⟨c.1, l, xs, c.2, p, rfl, B14.lst hlt hl', Paired.mapP hP fun _ _ z => z.bx hst B14, hGa.bx hst B14, c1, c2, c3, c4, fun H15 s15 => ⟨_, rfl, ?_⟩⟩
              exact ⟨_, _, _, _, rfl, b.trans (B14.trans (Bx.of_same s15)), hst14.same s15, T14.ext s15⟩
end
end K04
end
section
set_option maxRecDepth 100000
set_option maxHeartbeats 0
namespace K04
open PySem PySem.Spec PyProof.Rows L2
theorem law_at {w : World} {h : Heap} {mg : Str → Option Value} {fa : Addr} (Y : hk.says w h) (G : h.Ns mainGlobals mg) (hmg : mg ("law" : Str) = some (.ref fa)) :
    ∃ K : PySem.W.Frag, K.In h ∧ LamX.LawAtG PySem.Challenge.rw_seenenough_k04_windows_counted_and_serve w K 13 63 "script" mg fa h := by
  obtain ⟨K, KX, c⟩ := Y
  have T : Txt w K mg := ⟨h, KX, G, c⟩
  obtain ⟨f, fd, F, g⟩ := f_law T
  have e := hmg.symm.trans g
  cases e
  have B := F.bindsA (ps := ["script"]) (fun _ _ _ _ _ _ us hl => match us, hl with | [_], _ => rfl)
  refine ⟨K, KX, fd, tf.map (He.cT K), spLaw K, fun p hp => ?_, fun p hp => ?_, fun p hp => ?_, fun s u => B s [u] rfl, fun H a ns hl hH hS => ⟨a, ns, rfl, hS, hl, fun p hp => ?_, fun _ => rfl⟩, fun base _ _ TB => fn_law T (fun p hp => TB _ (List.mem_map.mpr ⟨p, hp, rfl⟩)) F⟩
  · obtain ⟨d, hd, rfl⟩ := List.mem_map.mp hp
    exact c.empty d hd
  · obtain ⟨d, hd, rfl⟩ := List.mem_map.mp hp
    exact c.out d hd
  · obtain ⟨d, hd, rfl⟩ := List.mem_map.mp hp
    exact PySem.W.codeHd_of_K KX (c.hd d hd)
  · obtain ⟨d, hd, rfl⟩ := List.mem_map.mp hp
    exact LamX.TabS.nil (hH _ (List.mem_map.mpr ⟨d, hd, rfl⟩))
end K04
open PySem PySem.W PySem.Calls PyProof.Rows
theorem PySem.Challenge.cw_seenenough_k04_windows_counted_and_serve_holds : PySem.Challenge.rw_seenenough_k04_windows_counted_and_serve.Holds := by
  w_on; o_law
  refine HandSHeadRun.head_any (r := OpenLaw.row PySem.Challenge.rw_seenenough_k04_windows_counted_and_serve) (q := view (OpenLaw.row PySem.Challenge.rw_seenenough_k04_windows_counted_and_serve).prog [46]) (H := K04.hk) (ob := K04.ob) (M := 20000) (loose := K04.loose1 ++ K04.loose2) (d := HandSHeadRun.topDef (OpenLaw.row PySem.Challenge.rw_seenenough_k04_windows_counted_and_serve).prog 46) (kwd := []) K04.ob_eq
    (by kernel_rfl) (fun s => by kernel_rfl) K04.run (by kernel_rfl) (by kernel_rfl) (by kernel_rfl) (by rfl) (by first | assumption | decide +kernel) (by decide +kernel) ⟨rfl, rfl, rfl, rfl, rfl, by decide +kernel⟩ ?hw ?hc
  case hw => w_witness2
  case hc =>
    refine LamX.walk_ofG (l := PySem.Challenge.rw_seenenough_k04_windows_counted_and_serve) (n := 63) (k := 13) (x := "script") rfl (by decide) (by kernel_rfl) ⟨by decide, by decide, by decide⟩ rfl ?F
    intro w mg fa h Y G hmg0
    have hmg : mg ("law" : PySem.Str) = some (.ref fa) := by
      have e : (HandSHeadRun.topDef (OpenLaw.row PySem.Challenge.rw_seenenough_k04_windows_counted_and_serve).prog 46).name = ("law" : PySem.Str) := by kernel_rfl
      rw [← e]
      exact hmg0
    exact K04.law_at Y G hmg
end
