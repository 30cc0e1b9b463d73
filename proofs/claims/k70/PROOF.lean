import PyProof.Rows.All
import Wide.All
import OpenK.AllK
import Wide.FinOn
import HandS.ForMost
import HandS.SlotsOwn
import KE.KCallOwn
import PyProof.RulesMatchSeq
import PyProof.Rows.MatchSeqLen
import PyProof.Draws
import PyProof.EnumMake
import PyProof.Rows.EnumRows
import HandS.ClsMeth
import HandS.HeadHook3
import HandS.More
import HandS.Defaults
import HandS.GenList
import HandS.Codes
import HandS.StrMore
import KE.KIntText
import KE.IntTextLaws
import PyProof.Rows.StrBin
import PyProof.Rows.ReprOcc
import HandS.IsInst
import PySem.Challenge.RW_pastslips_k70_read_simple_statements
import HandS.Flow
import HandS.FStr
import HandS.Words
import HandS.Wide
import HandS.HeadHook1
import HandS.HeadHook2
import HandS.Head0
import HandS.Head1
import HandS.Head2
import HandS.HeadEnd
import KE.KStateDown
set_option Elab.async false
set_option linter.all false
set_option maxRecDepth 100000
set_option maxHeartbeats 4000000
/-! Own dunder methods of instances that are tracked: ==, len, str, in. -/
namespace L2
open PySem PySem.Spec PyProof.Rows
section
variable {X : Cx} {CX : CXT} {k : Nat} {f C : Addr} {fd : FuncData} {ps : List Str} {sp : Sp} {E : XK} {ds : List Value} {dvs : List V}
/-- a call of a def below the running body, at any Around of its kind -/
theorem run_fnAt {A : Around} {pins : List (Addr × Obj)} {σ : St} {H : Hp} {s : Shared} {Q : VK} {us : List Value} {vs : List V} (F : FnOk X.prog X.w X.K X.mg X.base CX k f fd ps sp) (hr : Room k A) (e0 : Env0 X.prog X.w X.K X.mg X.base A X.stack s H)
    (hb : Binds X.K fd ps ds) (hd : Vals dvs ds) (hx : Passes CX X E) (I : Inv X pins σ H s) (r : Vals vs us) (h : sp (vs ++ dvs) H Q E) : wpAny (model X.prog X.w) A (call (.ref f) us) (EP X pins σ Q) X.xe s := by
  have r2 : Vals (vs ++ dvs) (us ++ ds) := r.append hd
  have hl : (us ++ ds).length = ps.length := by rw [← r2.length]; exact F.len _ _ _ _ h
  refine wpAny_call (codeAny_mono (F.run A X.stack s H ⟨us, []⟩ (us ++ ds) (vs ++ dvs) Q E hr e0 (hb s us I.kIn hl) r2 h) fun r s' hq => ?_)
  cases r with
  | error e => exact hx pins σ H s e s' I hq
  | ok fl =>
    cases fl with
    | ret u => exact I.after hq
    | next => exact False.elim hq
    | brk => exact False.elim hq
    | cont => exact False.elim hq
theorem Inv.instAt {pins : List (Addr × Obj)} {σ : St} {H : Hp} {s : Shared} {a dx : Addr} {fs : List (Str × V)} (I : Inv X pins σ H s) (h : H a = some (.ins C dx fs)) : ∃ od, PySem.W.InstAt s.heap a (PySem.W.instObj C dx) C (some od) := by
  obtain ⟨_, _, hne, ho, mA, hns, _⟩ := I.hok _ _ h
  obtain ⟨od, h1, h2⟩ := lookIn_ns hns
  exact ⟨od, ⟨ho, rfl, rfl, h1⟩⟩
/-- the type of the right side of a comparison by an own method -/
def RightTy (H : Hp) (y : V) (tb : Value) : Prop := match y with
  | .ref b => ∃ C' dy ws, H b = some (.ins C' dy ws) ∧ tb = .ref C'
  | .str _ => tb = .type "str"
  | .int _ => tb = .type "int"
  | .non => tb = .type "NoneType"
  | _ => False
theorem RightTy.looks {pins : List (Addr × Obj)} {σ : St} {H : Hp} {s : Shared} {y : V} {u tb : Value} (I : Inv X pins σ H s) (r : RelV y u) (h : RightTy H y tb) : PySem.W.Looks (model X.prog X.w) s.heap (typeOf u) tb := by
  cases y with
  | ref b =>
    obtain ⟨C', dy, ws, hb, e⟩ := h
    cases (show u = Value.ref b from r)
    obtain ⟨od, J⟩ := I.instAt hb
    rw [e]
    exact J.type
  | str z =>
    obtain ⟨t, e⟩ := (show ∃ t, u = Value.str z t from r)
    cases e
    rw [show tb = .type "str" from h]
    exact PySem.W.Looks.of_pure rfl
  | int z =>
    obtain ⟨t, e⟩ := (show ∃ t, u = Value.int z t from r)
    cases e
    rw [show tb = .type "int" from h]
    exact PySem.W.Looks.of_pure rfl
  | non =>
    cases (show u = Value.none from r)
    rw [show tb = .type "NoneType" from h]
    exact PySem.W.Looks.of_pure rfl
  | _ => exact False.elim h
/-- x == y by x's own __eq__ -/
def rOwnEq (K : PySem.W.Frag) (C : Addr) (sp : Sp) (E : XK) : R2 := fun x y H Q => ∃ a dx fs tb, x = .ref a ∧ H a = some (.ins C dx fs) ∧ RightTy H y tb ∧ PySem.W.notFirst K C tb = true ∧ sp [x, y] H Q E
theorem op_ownEq (hm : Meth X.K C "__eq__" f) (F : FnOk X.prog X.w X.K X.mg X.base CX k f fd ps sp) (hb : Binds X.K fd ps []) (hr : Room k X.A) (hx : Passes CX X E) : OpR X (compareOp .Eq) (rOwnEq X.K C sp E) := by
  intro pins s σ H x y v u Q I rx ry h
  obtain ⟨a, dx, fs, tb, rfl, ha, ht, hn, q⟩ := h
  cases (show v = Value.ref a from rx)
  obtain ⟨od, J⟩ := I.instAt ha
  obtain ⟨m, hF⟩ := I.fr
  show wpAny _ _ (richCompare .Eq (.ref a) u) _ _ _
  refine PySem.W.cmp_K (op := .Eq) (tb := tb) (Nat.lt_of_le_of_lt (Nat.le_add_right _ 1) (hu_of hr)) hF I.ok.mod.kin J (ht.looks I ry) hn hm.at_ hm.fn ?_
  refine wpAny_mono (run_fnAt (us := [.ref a, u]) (vs := [.ref a, y]) F hr I.env0 hb .nil hx I (.cons rfl (.cons ry .nil)) q) (fun w s' z => ?_) fun _ _ x => x
  obtain ⟨z', H', I', rz, qz⟩ := z
  exact SlX.cmpback rz ⟨z', H', I', rz, qz⟩
/-- len(x) by x's own __len__ -/
def rLenOwn (C : Addr) (sp : Sp) (E : XK) : List V → Hp → VK → Prop := fun xs H Q => ∃ a dx fs, xs = [.ref a] ∧ H a = some (.ins C dx fs) ∧ sp [.ref a] H (fun v H' => ∃ n : Int, v = .int n ∧ 0 ≤ n ∧ n < 2 ^ 63 ∧ Q (.int n) H') E
theorem call_lenOwn (hm : Meth X.K C "__len__" f) (F : FnOk X.prog X.w X.K X.mg X.base CX k f fd ps sp) (hb : Binds X.K fd ps []) (hr : Room (k + 1) X.A) (hx : Passes CX X E) : CallR X (.builtin "len") (rLenOwn C sp E) := by
  intro pins s σ H xs us Q I r h
  obtain ⟨a, dx, fs, rfl, ha, q⟩ := h
  obtain ⟨u, rfl, ru⟩ := vals1 r
  cases (show u = Value.ref a from ru)
  obtain ⟨od, J⟩ := I.instAt ha
  obtain ⟨m, hF⟩ := I.fr
  refine PySem.W.len_K hF I.ok.mod.kin J hm.at_ hm.fn ?_
  refine wpAny_mono (run_fnAt (us := [.ref a]) (vs := [.ref a]) F hr.in1 I.env0.in1 hb .nil hx I (.cons rfl .nil) q) (fun w s' z => ?_) fun _ _ x => x
  obtain ⟨z', H', I', rz, n, e, n0, n1, qz⟩ := z
  subst e
  obtain ⟨t, e⟩ := (show ∃ t, w = Value.int n t from rz)
  cases e
  exact ⟨⟨n0, n1⟩, .int n, H', I'.tok _, ⟨_, rfl⟩, qz⟩
/-- str(x) by x's own __str__ -/
def rStrOwn (C : Addr) (sp : Sp) (E : XK) : List V → Hp → VK → Prop := fun xs H Q => ∃ a dx fs, xs = [.ref a] ∧ H a = some (.ins C dx fs) ∧ sp [.ref a] H (fun v H' => ∃ z : Str, v = .str z ∧ Q (.str z) H') E
theorem call_strOwn (hm : Meth X.K C "__str__" f) (F : FnOk X.prog X.w X.K X.mg X.base CX k f fd ps sp) (hb : Binds X.K fd ps []) (hr : Room (k + 2) X.A) (hx : Passes CX X E) : CallR X (.type "str") (rStrOwn C sp E) := by
  intro pins s σ H xs us Q I r h
  obtain ⟨a, dx, fs, rfl, ha, q⟩ := h
  obtain ⟨u, rfl, ru⟩ := vals1 r
  cases (show u = Value.ref a from ru)
  obtain ⟨od, J⟩ := I.instAt ha
  have hr2 : Room k X.A.in1.in1 := (show Room (k + 1) X.A.in1 from hr.in1).in1
  refine PySem.W.kso_call (by have := hr2.un; omega) I.kIn J hm.at_ hm.fn ?_
  refine wpAny_mono (run_fnAt (us := [.ref a]) (vs := [.ref a]) F hr2 I.env0.in1.in1 hb .nil hx I (.cons rfl .nil) q) (fun w s' z => ?_) fun _ _ x => x
  obtain ⟨z', H', I', rz, t, e, qz⟩ := z
  subst e
  obtain ⟨tk, e⟩ := (show ∃ tk, w = Value.str t tk from rz)
  cases e
  exact ⟨.str t, H', I', ⟨_, rfl⟩, qz⟩
/-- x in y by y's own __contains__ -/
def rInOwn (C : Addr) (sp : Sp) (E : XK) (neg : Bool) : R2 := fun x y H Q => ∃ a dx fs, y = .ref a ∧ H a = some (.ins C dx fs) ∧ sp [y, x] H (fun v H' => ∃ b : Bool, v = .bl b ∧ Q (.bl (if neg then !b else b)) H') E
theorem op_inOwn (hm : Meth X.K C "__contains__" f) (F : FnOk X.prog X.w X.K X.mg X.base CX k f fd ps sp) (hb : Binds X.K fd ps []) (hr : Room k X.A) (hx : Passes CX X E) : OpR X (compareOp .In) (rInOwn C sp E false) := by
  intro pins s σ H x y v u Q I rx ry h
  obtain ⟨a, dx, fs, rfl, ha, q⟩ := h
  cases (show u = Value.ref a from ry)
  obtain ⟨od, J⟩ := I.instAt ha
  obtain ⟨m, hF⟩ := I.fr
  refine PySem.W.in_K hF I.ok.mod.kin J hm.at_ hm.fn ?_
  refine wpAny_mono (run_fnAt (us := [.ref a, v]) (vs := [.ref a, x]) F hr I.env0 hb .nil hx I (.cons rfl (.cons rx .nil)) q) (fun w s' z => ?_) fun _ _ x => x
  obtain ⟨z', H', I', rz, b, e, qz⟩ := z
  subst e
  cases (show w = Value.bool b from rz)
  exact wpAny_truthy_bool ⟨.bl b, H', I', rfl, qz⟩
theorem op_notInOwn (hm : Meth X.K C "__contains__" f) (F : FnOk X.prog X.w X.K X.mg X.base CX k f fd ps sp) (hb : Binds X.K fd ps []) (hr : Room k X.A) (hx : Passes CX X E) : OpR X (compareOp .NotIn) (rInOwn C sp E true) := by
  intro pins s σ H x y v u Q I rx ry h
  obtain ⟨a, dx, fs, rfl, ha, q⟩ := h
  cases (show u = Value.ref a from ry)
  obtain ⟨od, J⟩ := I.instAt ha
  obtain ⟨m, hF⟩ := I.fr
  refine PySem.W.notIn_K hF I.ok.mod.kin J hm.at_ hm.fn ?_
  refine wpAny_mono (run_fnAt (us := [.ref a, v]) (vs := [.ref a, x]) F hr I.env0 hb .nil hx I (.cons rfl (.cons rx .nil)) q) (fun w s' z => ?_) fun _ _ x => x
  obtain ⟨z', H', I', rz, b, e, qz⟩ := z
  subst e
  cases (show w = Value.bool b from rz)
  exact wpAny_truthy_bool ⟨.bl (!b), H', I', rfl, qz⟩
end
end L2

set_option maxHeartbeats 4000000
/-! match statements over the layer: patterns of constants, names, alternatives, sequences. -/
namespace L2
open PySem PySem.Spec PyProof.Rows
section
variable {X : Cx}
/-- what a pattern binds: slots and values -/
abbrev Bd := List (Nat × V)
def BdRel (X : Cx) : Bd → List (Str × Value) → Prop := Paired fun (p : Nat × V) (q : Str × Value) => X.N[p.1]? = some q.1 ∧ Loc X.env.scope q.1 ∧ (X.fn q.1 = true ∨ X.env.scope.names.lookup q.1 = some .local) ∧ RelV p.2 q.2
theorem BdRel.append : ∀ {a b : Bd} {c d : List (Str × Value)}, BdRel X a c → BdRel X b d → BdRel X (a ++ b) (c ++ d)
  | _, _, _, _, .nil, s => s
  | _, _, _, _, .cons r t, s => .cons r (BdRel.append t s)
def setAll : Bd → St → St
  | [], σ => σ
  | p :: r, σ => setAll r (σ.set p.1 (some p.2))
abbrev TPat := V → St → Hp → (Option Bd → Hp → Prop) → Prop
abbrev TPats := List V → St → Hp → (Option Bd → Hp → Prop) → Prop
def MP (X : Cx) (pins : List (Addr × Obj)) (σ : St) (Q : Option Bd → Hp → Prop) (r : Option (List (Str × Value))) (s' : Shared) : Prop := match r with
  | none => ∃ H', Inv X pins σ H' s' ∧ Q none H'
  | some bs => ∃ vs H', Inv X pins σ H' s' ∧ BdRel X vs bs ∧ Q (some vs) H'
structure PM (X : Cx) (p : Pattern) (t : TPat) : Prop where
  run : ∀ (pins : List (Addr × Obj)) (s : Shared) (σ : St) (H : Hp) (v : V) (u : Value) (Q : Option Bd → Hp → Prop), Inv X pins σ H s → RelV v u → t v σ H Q → wpAny (model X.prog X.w) X.A (matchPattern p X.env u) (MP X pins σ Q) X.xe s
/-- several patterns, each with its item -/
structure PMs (X : Cx) (ps : List Pattern) (t : TPats) : Prop where
  run : ∀ (pins : List (Addr × Obj)) (s : Shared) (σ : St) (H : Hp) (vs : List V) (us : List Value) (Q : Option Bd → Hp → Prop), Inv X pins σ H s → Vals vs us → t vs σ H Q → wpAny (model X.prog X.w) X.A (matchEach ps X.env us) (MP X pins σ Q) X.xe s
/-- alternatives -/
structure PMo (X : Cx) (ps : List Pattern) (t : TPat) : Prop where
  run : ∀ (pins : List (Addr × Obj)) (s : Shared) (σ : St) (H : Hp) (v : V) (u : Value) (Q : Option Bd → Hp → Prop), Inv X pins σ H s → RelV v u → t v σ H Q → wpAny (model X.prog X.w) X.A (matchFirst ps X.env u) (MP X pins σ Q) X.xe s
/-- a constant -/
def mVal (r : R2) (te : TE) : TPat := fun v σ H Q => te σ H fun c H1 => r v c H1 fun b H2 => ∃ k : Bool, b = .bl k ∧ Q (if k then some [] else none) H2
theorem pm_val {e : Expr} {te : TE} {r : R2} {pos : Pos} (ho : OpR X (compareOp .Eq) r) (he : PE X e te) : PM X (.MatchValue e pos) (mVal r te) := by
  refine ⟨fun pins s σ H v u Q I rv h => ?_⟩
  refine wpAny_matchPattern_Value (thn (he.run pins s σ H _ I h) fun c s1 ⟨x, H1, I1, rx, q1⟩ => ?_)
  refine thn (ho pins s1 σ H1 v x u c _ I1 rv rx q1) fun b s2 ⟨y, H2, I2, ry, k, e, q2⟩ => ?_
  subst e
  cases (show b = Value.bool k from ry)
  refine wpAny_truthy_bool ?_
  cases k with
  | true => exact ⟨[], H2, I2, .nil, q2⟩
  | false => exact ⟨H2, I2, q2⟩
/-- a name -/
def mNm (i : Nat) : TPat := fun v _ H Q => Q (some [(i, v)]) H
theorem pm_name {i : Nat} {x : Str} {pos : Pos} (hi : X.N[i]? = some x := by rfl) (hx : Loc X.env.scope x := by first | exact Or.inl rfl | exact Or.inr rfl) (hf : X.fn x = true ∨ X.env.scope.names.lookup x = some .local := by first | exact .inl rfl | exact .inr rfl | assumption) :
    PM X (.MatchAs none (some x) pos) (mNm i) := by
  refine ⟨fun pins s σ H v u Q I rv h => ?_⟩
  exact wpAny_matchPattern_Capture ⟨[(i, v)], H, I, .cons ⟨hi, hx, hf, rv⟩ .nil, h⟩
/-- _ -/
def mAny : TPat := fun _ _ H Q => Q (some []) H
theorem pm_any {pos : Pos} : PM X (.MatchAs none none pos) mAny := by
  refine ⟨fun pins s σ H v u Q I rv h => ?_⟩
  exact wpAny_matchPattern_Capture ⟨[], H, I, .nil, h⟩
/-- a pattern after another where the first fails -/
def mOr (t u : TPat) : TPat := fun v σ H Q => t v σ H fun r H1 => match r with
  | some bs => bs = [] ∧ Q (some []) H1
  | none => u v σ H1 Q
def mNo : TPat := fun _ _ H Q => Q none H
theorem pmo_nil : PMo X [] mNo := ⟨fun pins s σ H v u Q I rv h => wpAny_matchFirst_nil ⟨H, I, h⟩⟩
theorem pmo_cons {p : Pattern} {ps : List Pattern} {t u : TPat} (h1 : PM X p t) (h2 : PMo X ps u) : PMo X (p :: ps) (mOr t u) := by
  refine ⟨fun pins s σ H v w Q I rv h => ?_⟩
  refine wpAny_matchFirst_cons (thn (h1.run pins s σ H v w _ I rv h) fun r s1 z => ?_)
  cases r with
  | none =>
    obtain ⟨H1, I1, q⟩ := z
    exact h2.run pins s1 σ H1 v w Q I1 rv q
  | some bs =>
    obtain ⟨vs, H1, I1, rb, e, q⟩ := z
    subst e
    cases rb
    exact ⟨[], H1, I1, .nil, q⟩
def mAlt (t : TPat) : TPat := fun v σ H Q => t v σ H fun r H1 => match r with
  | some bs => bs = [] ∧ Q (some []) H1
  | none => Q none H1
theorem pm_or {ps : List Pattern} {t : TPat} {pos : Pos} (h : PMo X ps t) (hn : namesOfAll (ps.take 1) = [] := by rfl) : PM X (.MatchOr ps pos) (mAlt t) := by
  refine ⟨fun pins s σ H v w Q I rv q => ?_⟩
  refine wpAny_matchPattern_Or (thn (h.run pins s σ H v w _ I rv q) fun r s1 z => ?_)
  cases r with
  | none => exact z
  | some bs =>
    obtain ⟨vs, H1, I1, rb, e, q⟩ := z
    subst e
    rw [hn]
    exact ⟨[], H1, I1, .nil, q⟩
/-! ### sequences -/
def msNil : TPats := fun vs _ H Q => vs = [] ∧ Q (some []) H
def msCons (t : TPat) (u : TPats) : TPats := fun vs σ H Q => ∃ v r, vs = v :: r ∧ t v σ H fun a H1 => match a with
  | none => Q none H1
  | some bs => u r σ H1 fun b H2 => match b with
    | none => Q none H2
    | some cs => Q (some (bs ++ cs)) H2
theorem pms_nil : PMs X [] msNil := ⟨fun pins s σ H vs us Q I r h => wpAny_matchEach_nil ⟨[], H, I, .nil, h.2⟩⟩
theorem pms_cons {p : Pattern} {ps : List Pattern} {t : TPat} {u : TPats} (h1 : PM X p t) (h2 : PMs X ps u) (hp : p.isStar = false := by rfl) : PMs X (p :: ps) (msCons t u) := by
  refine ⟨fun pins s σ H vs us Q I r h => ?_⟩
  obtain ⟨v, vr, e, h⟩ := h
  subst e
  cases r with
  | cons rv rr =>
    refine wpAny_matchEach_cons (thn (h1.run pins s σ H v _ _ I rv h) fun a s1 z => ?_) hp
    cases a with
    | none => exact z
    | some bs =>
      obtain ⟨ws, H1, I1, rb, q⟩ := z
      refine thn (h2.run pins s1 σ H1 _ _ _ I1 rr q) fun b s2 y => ?_
      cases b with
      | none => exact y
      | some cs =>
        obtain ⟨xs, H2, I2, rc, q2⟩ := y
        exact ⟨ws ++ xs, H2, I2, rb.append rc, q2⟩
/-- a sequence pattern on a tuple -/
def mSeq (K : PySem.W.Frag) (n : Nat) (t : TPats) : TPat := fun v σ H Q => ∃ a xs, v = .ref a ∧ SqT K H a xs ∧ if xs.length = n then t xs σ H Q else Q none H
theorem pm_seq {ps : List Pattern} {t : TPats} {n : Nat} {pos : Pos} (hc : X.calm = true) (h : PMs X ps t) (hn : ps.length = n := by rfl) (hstar : ps.findIdx? (·.isStar) = none := by rfl)
    (hwild : (ps.all fun p => p.isWildcard || (p.isStar && p.names.isEmpty)) = false := by rfl) : PM X (.MatchSequence ps pos) (mSeq X.K n t) := by
  refine ⟨fun pins s σ H v u Q I rv q => ?_⟩
  obtain ⟨a, xs, e, hs, q⟩ := q
  subst e
  cases (show u = Value.ref a from rv)
  obtain ⟨its, r, ht, hz⟩ := I.tuple hs
  have hl := line63
  have hle : (its.toArray.size : Int) < 2 ^ 63 := by
    rw [List.size_toArray, ← r.length]
    omega
  by_cases hx : xs.length = n
  · rw [if_pos hx] at q
    refine matchSeq_tuple_hit ht hle (by rw [List.size_toArray, ← r.length, hn, hx]) ?_ hstar hwild
    have I1 := I.tok (s.toks + 1 + 1)
    have hsz : ps.length = its.toArray.size := by rw [List.size_toArray, ← r.length, hn, hx]
    rw [hsz]
    refine unpackItems_tuple (s := { s with toks := s.toks + 1 + 1 }) (items := its.toArray) (I.ok.hd hc) ht fun h' hx' => ?_
    have I2 : Inv X pins σ H { s with heap := h', toks := s.toks + 1 + 1 } := I1.kept (t' := s.toks + 1 + 1) fun b o e => hx' b o (Nat.ne_of_lt (Heap.lt_size e)) e
    exact h.run pins _ σ H xs _ Q I2 (by simpa using r) q
  · rw [if_neg hx] at q
    exact matchSeq_tuple_miss ht hle (by rw [List.size_toArray, ← r.length, hn]; exact hx) ⟨H, I.tok _, q⟩ hstar hwild
/-! ### cases -/
abbrev TCs := V → TS
structure PCs (X : Cx) (cs : List MatchCase) (t : TCs) : Prop where
  run : ∀ (pins : List (Addr × Obj)) (s : Shared) (σ : St) (H : Hp) (v : V) (u : Value) (b : Bool) (D : Ends), Inv X pins σ H s → RelV v u → t v D σ H → wpAny (model X.prog X.w) X.A (matchCases cs X.env u b) (SP X pins D) X.xe s
def cNil : TCs := fun _ D σ H => D.nx σ H
def cCons (t : TPat) (tb : TS) (u : TCs) : TCs := fun v D σ H => t v σ H fun r H1 => match r with
  | none => u v D σ H1
  | some bs => tb D (setAll bs σ) H1
theorem pcs_nil : PCs X [] cNil := ⟨fun pins s σ H v u b D I rv h => wpAny_matchCases_nil ⟨σ, H, I, h⟩⟩
theorem bind_all (hN : X.N.Nodup) {Q : Unit → Shared → Prop} {pins : List (Addr × Obj)} : ∀ {vs : Bd} {bs : List (Str × Value)} {σ : St} {H : Hp} {s : Shared}, BdRel X vs bs → Inv X pins σ H s → (∀ s', Inv X pins (setAll vs σ) H s' → Q () s') →
    wpAny (model X.prog X.w) X.A (assignInOrder (bs.map fun (n, _) => bindName X.env n) (bs.map (·.2))) Q X.xe s
  | _, _, σ, H, s, .nil, I, h => assignInOrder_nil (h s I)
  | _, _, σ, H, s, .cons (a := p) (b := q) r t, I, h => by
    obtain ⟨h1, h2, h3, h4⟩ := r
    exact assignInOrder_cons (wpAny_bindName (store_ok I hN h1 h2 h4 (fun s' I' => bind_all hN t I' h) h3))
theorem pcs_cons {p : Pattern} {body : List Stmt} {cs : List MatchCase} {t : TPat} {tb : TS} {u : TCs} (hN : X.N.Nodup) (h1 : PM X p t) (h2 : PSs X body tb) (h3 : PCs X cs u) : PCs X (⟨p, none, body⟩ :: cs) (cCons t tb u) := by
  refine ⟨fun pins s σ H v w b D I rv h => ?_⟩
  refine wpAny_matchCases_cons (thn (h1.run pins s σ H v w _ I rv h) fun r s1 z => ?_)
  cases r with
  | none =>
    obtain ⟨H1, I1, q⟩ := z
    exact h3.run pins s1 σ H1 v w false D I1 rv q
  | some bs =>
    obtain ⟨vs, H1, I1, rb, q⟩ := z
    exact bind_all hN rb I1 fun s2 I2 => h2.run pins s2 _ H1 D I2 q
def tMatch (te : TE) (u : TCs) : TS := fun D σ H => te σ H fun v H1 => u v D σ H1
theorem ps_match {e : Expr} {te : TE} {cs : List MatchCase} {u : TCs} {pos : Pos} (he : PE X e te) (hc : PCs X cs u) : PS X (.Match e cs pos) (tMatch te u) := by
  refine ⟨fun pins s σ H D I h => ?_⟩
  refine wpAny_Match (thn (he.run pins s σ H _ I h) fun v s1 ⟨x, H1, I1, rx, q⟩ => ?_)
  exact hc.run pins s1 σ H1 x v true D I1 rx q
end
end L2

set_option maxHeartbeats 4000000
/-! for i, c in enumerate(a text). -/
namespace L2
open PySem PySem.Spec PyProof.Rows
/-- the signs of x with their places, each pair in a new tuple -/
def ItEs (x : Str) : It :=
  ⟨fun i _ => i < x.cps.size, fun i H v H' => ∃ T c, v = .ref T ∧ H T = none ∧ x.cps[i]? = some c ∧ H' = upd H T (.tup [.int (i : Nat), .str ⟨#[c]⟩]), fun i _ => x.cps.size ≤ i⟩
theorem turn_enumS {P : Program} {w : World} {K : PySem.W.Frag} {elts : List Expr} {kk : Nat} {tpos : Pos} (x : Str) (t : Tok) (ty : String) (hty : ty = "str_ascii_iterator" ∨ ty = "str_iterator") (e it : Addr) :
    Turn P w K (.Tuple elts kk tpos) (ItEs x) [e, it] e (fun i h => (∃ old, IsEnum h e it ((i : Nat) : Int) old) ∧ h.IsStrIter it ty x t i ∧ e ≠ it) where
  mem := by simp
  obj := fun i h st b hb => by
    obtain ⟨⟨old, he⟩, ⟨o, ho, hc, hd⟩, _⟩ := st
    have e' : b = e ∨ b = it := by simpa using hb
    rcases e' with z | z
    · rw [z]; exact ⟨_, he, fun v q => nomatch q⟩
    · rw [z]; exact ⟨o, ho, fun v q => by rw [hd] at q; cases q⟩
  keep := fun i h h' st k => let ⟨⟨old, he⟩, ⟨o, ho, r⟩, hne⟩ := st; ⟨⟨old, k e (by simp) _ he⟩, ⟨o, k it (by simp) o ho, r⟩, hne⟩
  item := by
    intro X hP hw hK hc i pins s σ H E I hf st hg
    subst hP hw hK
    obtain ⟨⟨old, he⟩, hit, hne⟩ := st
    have hh : X.A.in1.handled = none := I.ok.hd hc
    have D : Draws X.prog X.w X.A.in1 it [it] x.cps.size (fun i v => ∃ c u, x.cps[i]? = some c ∧ v = .str ⟨#[c]⟩ u) (fun i h => h.IsStrIter it ty x t i) := by
      rcases hty with z | z
      · rw [z]; exact Draws.strAscii hh it x t
      · rw [z]; exact Draws.strWide hh it x t
    have hel : e < s.heap.objs.size := Heap.lt_size he
    have hil : it < s.heap.objs.size := by obtain ⟨_, q, _⟩ := hit; exact Heap.lt_size q
    refine wpAny_pyNext_enum_itemD D he hit hg hne (by simpa using hne) fun u h' tk hu ho hit' hT hsz hk => ?_
    obtain ⟨c, ut, hcx, rfl⟩ := hu
    refine ⟨_, rfl, wpAny_letOwnedTupleGo_enum (s := { s with heap := h', toks := tk + 1 }) ho fun h'' he' sb => ?_⟩
    have hT2 : h''.get? s.heap.objs.size = some { cls := .type "tuple", data := .seq #[.int i tk, .str ⟨#[c]⟩ ut] } := (sb.2 _ (Nat.ne_of_gt hel)).trans hT
    have new : ObjOk X.prog X.w (upd H s.heap.objs.size (.tup [.int (i : Nat), .str ⟨#[c]⟩])) h'' s.heap.objs.size (.tup [.int (i : Nat), .str ⟨#[c]⟩]) :=
      ⟨by show 2 ≤ sizeLine; decide, [.int i tk, .str ⟨#[c]⟩ ut], .cons ⟨_, rfl⟩ (.cons ⟨_, rfl⟩ .nil), ⟨_, hT2, rfl, _, rfl⟩⟩
    have I1 : Inv X pins σ (upd H s.heap.objs.size (.tup [.int (i : Nat), .str ⟨#[c]⟩])) { s with heap := h'', toks := tk + 1 } :=
      I.turnedNew (ch := [e, it]) (fun b ob hb q => (sb.2 b (fun z => hb (by simp [z]))).trans (hk b ob (fun z => hb (by simp [z])) (fun z => hb (by simp [z])) q)) hf (Nat.le_refl _) new
    refine ⟨.ref s.heap.objs.size, _, I1, rfl, ⟨_, c, rfl, I.hok.fresh (Nat.le_refl _), hcx, rfl⟩, ⟨⟨.str ⟨#[c]⟩ ut, ?_⟩, ?_, hne⟩, fun b hb => ?_⟩
    · have e1 : ((i + 1 : Nat) : Int) = (i : Int) + 1 := by omega
      rw [e1]; exact he'
    · obtain ⟨o, ho', r⟩ := hit'
      exact ⟨o, (sb.2 it (Ne.symm hne)).trans ho', r⟩
    · have hb' : b < s.heap.objs.size := by
        have e' : b = e ∨ b = it := by simpa using hb
        rcases e' with z | z
        · rw [z]; exact hel
        · rw [z]; exact hil
      rw [upd_ne (Nat.ne_of_lt hb')]
      exact (hf b hb).1
  done := by
    intro X hP hw hK hc i pins s σ H E I hf st hg
    subst hP hw hK
    obtain ⟨⟨old, he⟩, hit, hne⟩ := st
    have hh : X.A.in1.handled = none := I.ok.hd hc
    obtain ⟨f0, f1, f2, f3, f4, f5⟩ := hf it (by simp)
    have D : Draws X.prog X.w X.A.in1 it [it] i (fun i v => False) (fun j h => h.IsStrIter it ty x t i ∧ j = i) := by
      refine ⟨fun _ _ st => let ⟨⟨o, ho, _⟩, _⟩ := st; ⟨o, ho⟩, fun _ _ _ st hk => let ⟨⟨o, ho, r⟩, q⟩ := st; ⟨⟨o, hk it (by simp) o ho, r⟩, q⟩, fun j s Q E hj st _ => absurd st.2 (Nat.ne_of_lt hj), fun s Q E st hE => ?_⟩
      have hx : x.cps[i]? = none := Array.getElem?_eq_none hg
      rcases hty with z | z
      · subst z; exact wpAny_nextOf_ascii_end hh st.1 hx hE
      · subst z; exact wpAny_nextOf_wide_end hh st.1 hx hE
    exact wpAny_pyNext_enum_endD D he ⟨hit, rfl⟩ fun h' eb => ⟨rfl, I.turned (t' := s.toks) (fun b o hb q => eb b o hb q) f0 f1 f3 f4 f5⟩
  self := fun A i s Q E st h => let ⟨⟨_, he⟩, _⟩ := st; wpAny_pyIter_enum he h
def iEnumS (ta : TA) : TI := fun σ H R => ta σ H fun vs H1 => ∃ x, vs = [.str x] ∧ R (ItEs x) H1
theorem pi_enumS {X : Cx} {e : Expr} {ta : TA} {p pos tpos : Pos} {elts : List Expr} {kk : Nat} (hg : Gl X "enumerate") (hm : X.mg "enumerate" = none) (ha : PA X [e] ta) (hs : starEach [e] X.env = [(false, eval e X.env)] := by rfl) :
    PI X (.Tuple elts kk tpos) (.Call (.Name "enumerate" p) [e] [] pos) (iEnumS ta) := by
  refine ⟨fun pins s σ H R I h => ?_⟩
  refine Call_ (ld_blt I hg hm boot_enumerate (PyProof.Rows.callWith_type1 (thn (ha.run pos pins s σ H _ I h) fun us s1 ⟨vs, H1, I1, r1, q1⟩ => ?_) hs rfl))
  obtain ⟨x, ex, q⟩ := q1
  subst ex
  cases r1 with
  | cons r rr =>
    cases rr
    obtain ⟨t, e⟩ := r
    subst e
    refine call_enumerate_str fun h' he hit hsz hk => wpAny_pyIter_enum he ?_
    have I2 : Inv X pins σ H1 { s1 with heap := h' } := I1.kept (t' := s1.toks) hk
    have hty : strIterType x = "str_ascii_iterator" ∨ strIterType x = "str_iterator" := by unfold strIterType; split <;> simp
    refine ⟨s1.heap.objs.size + 1, [s1.heap.objs.size + 1, s1.heap.objs.size], _, _, H1, rfl, I2, turn_enumS x t (strIterType x) hty (s1.heap.objs.size + 1) s1.heap.objs.size, ⟨⟨.none, he⟩, hit, Nat.succ_ne_self _⟩, fun b hb => ?_, q⟩
    have e' : b = s1.heap.objs.size + 1 ∨ b = s1.heap.objs.size := by simpa using hb
    have hle : s1.heap.objs.size ≤ b := by
      rcases e' with z | z
      · rw [z]; exact Nat.le_add_right _ _
      · rw [z]; exact Nat.le_refl _
    exact I1.fpOk hle (I1.hok.fresh hle)
/-- a loop over them -/
theorem for_enumS {x : Str} {g : TG} {tb : TS} {D : Ends} {σ : St} {H : Hp} (Pv : Nat → St → Hp → Prop) (h0 : Pv 0 σ H)
    (hs : ∀ (i : Nat) (c : Nat) (T : Addr) (σ : St) (H : Hp), x.cps[i]? = some c → H T = none → Pv i σ H → g (.ref T) σ (upd H T (.tup [.int (i : Nat), .str ⟨#[c]⟩])) fun σ2 H2 => tb { D with nx := Pv (i + 1), ct := Pv (i + 1), bk := D.nx } σ2 H2)
    (hd : ∀ σ H, Pv x.cps.size σ H → D.nx σ H) : ∃ W : Nat → Nat → St → Hp → Prop, (∃ m, W 0 m σ H) ∧ ∀ i m σ H, W i m σ H → ((ItEs x).stop i H ∧ D.nx σ H) ∨ ((ItEs x).go i H ∧ ∃ N : St → Hp → Prop, (∀ σ' H', N σ' H' → ∃ m', m' < m ∧ W (i + 1) m' σ' H') ∧ ∀ y H', (ItEs x).yld i H y H' → g y σ H' fun σ2 H2 => tb { D with nx := N, ct := N, bk := D.nx } σ2 H2) := by
  refine ⟨fun i m σ H => i + m = x.cps.size ∧ Pv i σ H, ⟨x.cps.size, by omega, h0⟩, fun i m σ H ⟨e, p⟩ => ?_⟩
  cases m with
  | zero =>
    have e' : i = x.cps.size := by omega
    subst e'
    exact .inl ⟨Nat.le_refl _, hd σ H p⟩
  | succ m =>
    refine .inr ⟨(by show i < x.cps.size; omega), fun σ2 H2 => Pv (i + 1) σ2 H2, fun σ2 H2 q => ⟨m, Nat.lt_succ_self m, by omega, q⟩, fun y H' hy => ?_⟩
    obtain ⟨T, c, ey, hT, hc, eH⟩ := hy
    subst ey eH
    exact hs i c T σ H hc hT p
end L2

set_option maxHeartbeats 4000000
/-! static methods called off their class; a head's facts with defs at any address. -/
namespace L2
open PySem PySem.Spec PyProof.Rows
/-- C.m is a staticmethod: its record at p, its def at g -/
structure SMet (K : PySem.W.Frag) (C : Addr) (mc : Value) (m : Str) (p g : Addr) : Prop where
  stat : PySem.W.findCls K (.ref C) mc m = some (.get (.builtin "staticmethod.__get__") (.ref p) .none (.ref C))
  held : ∃ rest, PySem.W.recIn K p "staticmethod" = some (.ref g :: rest)
  kpt : PySem.W.keepIn K (.ref g) = true
def tSMeth (C : Addr) (sp : Sp) (dvs : List V) (E : XK) (ta : TE) (t : TA) : TE := fun σ H Q => ta σ H fun x H1 => x = .ref C ∧ t σ H1 fun vs H2 => sp (vs ++ dvs) H2 Q E
theorem pe_smeth {X : Cx} {CX : CXT} {k : Nat} {C p g : Addr} {mc : Value} {fd : FuncData} {ps : List Str} {sp : Sp} {E : XK} {ds : List Value} {dvs : List V} {o e : Expr} {es : List Expr} {m : Str} {pos apos : Pos} {ta : TE} {t : TA} {pl : Sem Bool}
    (he : PE X o ta) (r : ClX.CRead X.K C mc) (c : SMet X.K C mc m p g) (F : FnOk X.prog X.w X.K X.mg X.base CX k g fd ps sp) (hr : Room k X.A) (hb : Binds X.K fd ps ds) (hd : Vals dvs ds) (hx : Passes CX X E) (ha : PA X (e :: es) t)
    (hst : starEach (e :: es) X.env = (false, eval e X.env) :: starEach es X.env := by rfl) (hpl : (backTo pos (starEach es X.env)).any (·.1) = false := by rfl)
    (ht : eval (.Call (.Attribute o m apos) (e :: es) [] pos) X.env = (do
      let ov ← eval o X.env
      standAt apos.atName
      let (f, first) ← holding [ov] (getMethod ov m pl)
      callWith pos f first (backTo pos (starEach (e :: es) X.env)) (backToKw pos (keywordEach [] X.env))) := by rfl) :
    PE X (.Call (.Attribute o m apos) (e :: es) [] pos) (tSMeth C sp dvs E ta t) := by
  refine ⟨fun pins s σ H Q I h => ?_⟩
  refine PySem.W.methodCall_KW (pl := pl) (thn (he.run pins s σ H _ I h) fun u s1 ⟨x, H1, I1, rx, ex, q⟩ => ?_) ht
  subst ex
  cases (show u = Value.ref C from rx)
  obtain ⟨rest, hp⟩ := c.held
  refine PySem.W.method_cls I1.kIn r.ga (PySem.W.cls_bind I1.kIn r.rd c.stat ?_)
  refine wpAny_call (PySem.W.sm_get (s := { s1 with toks := s1.toks + 1 }) I1.kIn hp (PySem.W.handed_on rfl ?_))
  have I2 := I1.tok (s1.toks + 1)
  refine PySem.W.callWith_K (h₀ := X.base) I.ok.mod.kin c.kpt (thn (ha.run pos pins _ σ H1 _ I2 q) fun us s2 ⟨vs, H2, I3, rv, q2⟩ => ⟨I3.kIn, ?_⟩) hst hpl
  exact run_fn F hr hb hd hx I3 rv q2
end L2
/-! ### a head's facts: defs by address functions -/
namespace Hk
open PySem PySem.Spec PyProof.Rows L2 He
/-- a def, found at an address that is a function of what is looked at -/
structure DefA where
  loc : PySem.W.Frag → Addr
  nm : Str
  ql : Str
  pr : Arguments
  bd : List Stmt
  sc : Scope
  df : List Dv := []
def seenAt (K : PySem.W.Frag) (a : Addr) : FnW := match K.lookup a with
  | some ⟨_, _, .func fd, _⟩ => some (fd.name, fd.qualname, fd.params, fd.body, fd.scope, fd.globals, fd.closure, fd.builtins)
  | _ => none
def DefA.due (d : DefA) : FnW := some (d.nm, d.ql, d.pr, .stmts d.bd, d.sc, mainGlobals, [], builtinsNs)
def DefA.dvs (K : PySem.W.Frag) (d : DefA) : List V := d.df.map (Dv.v K)
def DefA.good (K : PySem.W.Frag) (d : DefA) : Bool := PySem.W.keepIn K (.ref (d.loc K)) && (match K.lookup (d.loc K) with
  | some ⟨_, _, .func fd, _⟩ => PySem.W.codeIn K fd.code d.ql && (dflB K fd.defaults (d.dvs K) && kwdB K fd.kwdefaults [])
  | _ => false)
theorem DefA.fun_ {K : PySem.W.Frag} {d : DefA} (e : seenAt K (d.loc K) = d.due) (c : d.good K = true) : ∃ fd, FunD K d.nm d.ql d.pr d.bd d.sc (d.dvs K) [] (d.loc K) fd := by
  obtain ⟨kp, c2⟩ := ba c
  unfold seenAt at e
  cases q : K.lookup (d.loc K) with
  | none =>
    rw [q] at c2
    cases c2
  | some o =>
    obtain ⟨oc, od, dt, osl⟩ := o
    rw [q] at c2 e
    cases dt with
    | func fd =>
      obtain ⟨n1, n2, n3, n4, n5, n6, n7, n8, n9, n10, n11, n12, n13, n14, n15⟩ := fd
      have e2 : (some (n1, n2, n3, n4, n5, n6, n7, n15) : FnW) = some (d.nm, d.ql, d.pr, .stmts d.bd, d.sc, mainGlobals, [], builtinsNs) := e
      simp only [Option.some.injEq, Prod.mk.injEq] at e2
      obtain ⟨h1, h2, h3, h4, h5, h6, h7, h8⟩ := e2
      subst h1 h2 h3 h4 h5 h6 h7 h8
      have c3 : (PySem.W.codeIn K n13 d.ql && (dflB K n8 (d.dvs K) && kwdB K n9 [])) = true := c2
      obtain ⟨k1, k2⟩ := ba c3
      obtain ⟨k3, k4⟩ := ba k2
      exact ⟨_, ⟨oc, od, n8, n9, n10, n11, n12, n13, n14, osl, rfl, q, k1, dflB_ok k3, kwdB_ok k4⟩, kp⟩
    | _ => cases c2
abbrev AlY : Type := (Bool × List FnW) × List (Option (List (Option (Str × Int))))
def obsY (fa : List Fa) (ex : PySem.W.Frag → Bool) (fn : List DefA) (ts : List Tab) (K : PySem.W.Frag) : AlY := (((fa.all fun f => f.ok K) && (ex K && fn.all fun d => d.good K), fn.map fun d => seenAt K (d.loc K)), ts.map fun t => dicW K (t.1 K))
def valY (fn : List DefA) (ts : List Tab) (w : World) : AlY := ((true, fn.map DefA.due), ts.map fun t => some (keysIn w.params t.2))
def SaysY (fa : List Fa) (ex : PySem.W.Frag → Bool) (fn : List DefA) (ts : List Tab) (w : World) (K : PySem.W.Frag) : Prop := obsY fa ex fn ts K = valY fn ts w
def obsYG (n : Nat) (fa : List Fa) (ex : PySem.W.Frag → Bool) (fn : List DefA) (ts : List Tab) (g : Addr → Option Obj) : AlY := obsY fa ex fn ts (frG g (asD g n ++ [PySem.cStatics]))
def hookY (n : Nat) (fa : List Fa) (ex : PySem.W.Frag → Bool) (fn : List DefA) (ts : List Tab) : PySem.W.Hook where
  α := AlY
  obs := fun s => obsYG n fa ex fn ts s.heap.get?
  val := fun w => valY fn ts w
  says := fun w h => ∃ K : PySem.W.Frag, K.In h ∧ SaysY fa ex fn ts w K
  of := fun _ _ e => ⟨_, frG_in, e⟩
  keeps := fun _ _ _ ⟨K, hK, c⟩ k => ⟨K, PySem.W.Frag.In.keeps hK k, c⟩
theorem obsYG_eq {n : Nat} {fa : List Fa} {ex : PySem.W.Frag → Bool} {fn : List DefA} {ts : List Tab} {g : Addr → Option Obj} {s : Shared} (h : ∀ a, g a = s.heap.get? a) : obsYG n fa ex fn ts g = (hookY n fa ex fn ts).obs s := by
  have e : g = s.heap.get? := funext h
  rw [e] <;> rfl
section
variable {fa : List Fa} {ex : PySem.W.Frag → Bool} {fn : List DefA} {ts : List Tab} {w : World} {K : PySem.W.Frag}
theorem SaysY.all (c : SaysY fa ex fn ts w K) : (fa.all fun f => f.ok K) = true ∧ ex K = true ∧ (fn.all fun d => d.good K) = true := by
  have c1 : ((fa.all fun f => f.ok K) && (ex K && fn.all fun d => d.good K)) = true := congrArg (fun z : AlY => z.1.1) c
  obtain ⟨k1, k2⟩ := ba c1
  obtain ⟨k3, k4⟩ := ba k2
  exact ⟨k1, k3, k4⟩
theorem SaysY.fact (c : SaysY fa ex fn ts w K) (i : Nat) {f : Fa} (h : fa[i]? = some f := by rfl) : f.ok K = true := List.all_eq_true.mp c.all.1 f (List.mem_of_getElem? h)
theorem SaysY.more (c : SaysY fa ex fn ts w K) : ex K = true := c.all.2.1
theorem SaysY.def_ (c : SaysY fa ex fn ts w K) (i : Nat) {d : DefA} (h : fn[i]? = some d := by rfl) : ∃ fd, FunD K d.nm d.ql d.pr d.bd d.sc (d.dvs K) [] (d.loc K) fd := by
  have e : fn.map (fun d => seenAt K (d.loc K)) = fn.map DefA.due := congrArg (fun z : AlY => z.1.2) c
  have e2 : (fn.map fun d => seenAt K (d.loc K))[i]? = (fn.map DefA.due)[i]? := by rw [e]
  rw [List.getElem?_map, List.getElem?_map, h] at e2
  exact DefA.fun_ (Option.some.inj e2) (List.all_eq_true.mp c.all.2.2 d (List.mem_of_getElem? h))
theorem SaysY.tab (c : SaysY fa ex fn ts w K) (i : Nat) {t : Tab} (h : ts[i]? = some t := by rfl) : ∃ es n, KDict K w (t.1 K) es n := by
  have e : ts.map (fun t => dicW K (t.1 K)) = ts.map fun t => some (keysIn w.params t.2) := congrArg (fun z : AlY => z.2) c
  have e2 : (ts.map fun t => dicW K (t.1 K))[i]? = (ts.map fun t => some (keysIn w.params t.2))[i]? := by rw [e]
  rw [List.getElem?_map, List.getElem?_map, h] at e2
  exact dicW_ok (Option.some.inj e2)
end
/-- a static method's def -/
def smA (K : PySem.W.Frag) (x m : Str) : Addr := match PySem.W.findIn K (.ref (ga K x)) m with
  | some (some (.ref p)) => (match PySem.W.recIn K p "staticmethod" with
    | some (.ref g :: _) => g
    | _ => 0)
  | _ => 0
def smP (K : PySem.W.Frag) (x m : Str) : Addr := match PySem.W.findIn K (.ref (ga K x)) m with
  | some (some (.ref p)) => p
  | _ => 0
end Hk

set_option maxHeartbeats 4000000
/-! d.get(k, x) of a dict of the top with text keys; -n. -/
namespace L2
open PySem PySem.Spec PyProof.Rows
section
variable {X : Cx} {d : Addr} {es : Array DictEntry} {n : Nat} {o e f : Expr} {td ty tx : TE} {apos cpos pos : Pos}
def tKGet2 (K : PySem.W.Frag) (d : Addr) (td ty tx : TE) : TE := fun σ H Q => td σ H fun x H1 => x = .ref d ∧ ty σ H1 fun y H2 => tx σ H2 fun v H3 => ∃ (z : Str) (r : Option Value), y = .str z ∧ PySem.W.nsIn K d z = some r ∧ (match r with
  | none => Q v H3
  | some u => ∃ v0, RelV v0 u ∧ Q v0 H3)
theorem pe_kget2 (D : KDict X.K X.w d es n) (ho : PE X o td) (he : PE X e ty) (hf : PE X f tx) (m : M2 X o "get" apos e f cpos) : PE X (.Call (.Attribute o "get" apos) [e, f] [] cpos) (tKGet2 X.K d td ty tx) := by
  refine ⟨fun pins s σ H Q I h => ?_⟩
  refine wpAny_Call_method m.base m.few m.line PySem.F.plainAttrs_dict PySem.F.slot_dict_get PySem.F.type_dict_get (thn (ho.run pins s σ H _ I h) fun u s1 ⟨x, H1, I1, rx, ex, q1⟩ => ?_)
  subst ex
  cases (show u = Value.ref d from rx)
  have mo := PySem.W.mapOf_K (prog := X.prog) (w := X.w) I1.kIn D.at_ D.lit
  refine ⟨mo.typeIs, mo.noDict, ?_⟩
  rw [m.trees]
  refine Calls.callWith_builtin rfl (Calls.evalArgs_plain (Calls.spliced_cons (thn (he.run pins s1 σ H1 _ I1 q1) fun iv s2 ⟨y, H2, I2, ry, q2⟩ =>
    Calls.spliced_cons (thn (hf.run pins s2 σ H2 _ I2 q2) fun fv s3 ⟨v, H3, I3, rv, z, r, ey, en, q3⟩ => Calls.spliced_nil ?_))))
  subst ey
  obtain ⟨t, et⟩ := (show ∃ t, iv = Value.str z t from ry)
  subst et
  have mo3 := PySem.W.mapOf_K (prog := X.prog) (w := X.w) I3.kIn D.at_ D.lit
  refine call_meetsIn PySem.F.slot_dict_get mo3.typeIs PySem.F.entry_dict_get (PySem.F.args_dict_get_3 _ _ _) (meets_dict_get_default (PySem.strKind X.prog X.w) d (PySem.strKind_is X.prog X.w z t) D.low fv) ⟨_, mo3, ?_⟩
  rw [PySem.W.find_K D.at_ en]
  cases r with
  | none => exact ⟨v, H3, I3.tok _, rv, q3⟩
  | some u =>
    obtain ⟨v0, r0, q⟩ := q3
    exact ⟨v0, H3, I3.tok _, r0, q⟩
end
end L2

set_option maxHeartbeats 4000000
/-! A def as its callers know it: its promise, how arguments bind, its defaults. No exception leaves it. -/
namespace L2
open PySem PySem.Spec PyProof.Rows
structure Cal (P : Program) (w : World) (K : PySem.W.Frag) (mg : Str → Option Value) (base : Heap) (k : Nat) (f : Addr) (ps : List Str) (dvs : List V) (sp : Sp) : Prop where
  how : ∃ fd ds, FnOk P w K mg base CX0 k f fd ps sp ∧ Binds K fd ps ds ∧ Vals dvs ds
  kpt : PySem.W.keepIn K (.ref f) = true
theorem Cal.mono {P : Program} {w : World} {K : PySem.W.Frag} {mg : Str → Option Value} {base : Heap} {j k : Nat} {f : Addr} {ps : List Str} {dvs : List V} {sp : Sp} (c : Cal P w K mg base j f ps dvs sp) (h : j ≤ k) : Cal P w K mg base k f ps dvs sp := by
  obtain ⟨⟨fd, ds, a, b, e⟩, q⟩ := c
  exact ⟨⟨fd, ds, a.mono h, b, e⟩, q⟩
theorem Cal.imp {P : Program} {w : World} {K : PySem.W.Frag} {mg : Str → Option Value} {base : Heap} {k : Nat} {f : Addr} {ps : List Str} {dvs : List V} {sp sp' : Sp} (c : Cal P w K mg base k f ps dvs sp) (h : ∀ vs H Q E, sp' vs H Q E → sp vs H Q E) : Cal P w K mg base k f ps dvs sp' := by
  obtain ⟨⟨fd, ds, a, b, e⟩, q⟩ := c
  exact ⟨⟨fd, ds, a.imp h, b, e⟩, q⟩
/-- a promise that asks for what can't be -/
theorem Cal.no {P : Program} {w : World} {K : PySem.W.Frag} {mg : Str → Option Value} {base : Heap} {j k : Nat} {f : Addr} {ps : List Str} {dvs : List V} {sp sp' : Sp} (c : Cal P w K mg base j f ps dvs sp) (h : ∀ vs H Q E, ¬ sp' vs H Q E) : Cal P w K mg base k f ps dvs sp' := by
  obtain ⟨⟨fd, ds, a, b, e⟩, q⟩ := c
  exact ⟨⟨fd, ds, ⟨fun vs H Q E z => absurd z (h _ _ _ _), fun A outer s H args us vs Q E _ _ _ _ z => absurd z (h _ _ _ _)⟩, b, e⟩, q⟩
section
variable {X : Cx} {k : Nat} {f C : Addr} {ps : List Str} {dvs : List V} {sp : Sp} {x m : Str} {p pos apos : Pos} {e o : Expr} {es : List Expr} {t : TA} {ta : TE}
theorem pe_callC (c : Cal X.prog X.w X.K X.mg X.base k f ps dvs sp) (hr : Room k X.A) (hm : X.mg x = some (.ref f)) (ha : PA X (e :: es) t) (hg : Gl X x := by rfl) (hdb : (x == ("__debug__" : Str)) = false := by decide)
    (he : starEach (e :: es) X.env = (false, eval e X.env) :: starEach es X.env := by rfl) (hpl : (backTo pos (starEach es X.env)).any (·.1) = false := by rfl) :
    PE X (.Call (.Name x p) (e :: es) [] pos) (tCall sp dvs E0 t) := by
  obtain ⟨⟨fd, ds, a, b, r⟩, q⟩ := c
  exact pe_call a hr hg hm q b r pass0 ha hdb he hpl
theorem pe_callC0 (c : Cal X.prog X.w X.K X.mg X.base k f ps dvs sp) (hr : Room k X.A) (hm : X.mg x = some (.ref f)) (hg : Gl X x := by rfl) (hdb : (x == ("__debug__" : Str)) = false := by decide) : PE X (.Call (.Name x p) [] [] pos) (tCall sp dvs E0 tNil) := by
  obtain ⟨⟨fd, ds, a, b, r⟩, q⟩ := c
  exact pe_call0 a hr hg hm q b r pass0 hdb
theorem pe_methC {pl : Sem Bool} (c : Cal X.prog X.w X.K X.mg X.base k f ps dvs sp) (hr : Room k X.A) (cl : Cls X.K C) (hm : Meth X.K C m f) (he : PE X o ta) (ha : PA X (e :: es) t)
    (hst : starEach (e :: es) X.env = (false, eval e X.env) :: starEach es X.env := by rfl) (hpl : (backTo pos (starEach es X.env)).any (·.1) = false := by rfl)
    (ht : eval (.Call (.Attribute o m apos) (e :: es) [] pos) X.env = (do
      let ov ← eval o X.env
      standAt apos.atName
      let (f, first) ← holding [ov] (getMethod ov m pl)
      callWith pos f first (backTo pos (starEach (e :: es) X.env)) (backToKw pos (keywordEach [] X.env))) := by rfl) : PE X (.Call (.Attribute o m apos) (e :: es) [] pos) (tMeth C m sp dvs E0 ta t) := by
  obtain ⟨⟨fd, ds, a, b, r⟩, q⟩ := c
  exact pe_meth (pl := pl) he cl hm a hr b r pass0 ha hst hpl ht
theorem pe_methC0 {pl : Sem Bool} (c : Cal X.prog X.w X.K X.mg X.base k f ps dvs sp) (hr : Room k X.A) (cl : Cls X.K C) (hm : Meth X.K C m f) (he : PE X o ta)
    (ht : eval (.Call (.Attribute o m apos) [] [] pos) X.env = (do
      let ov ← eval o X.env
      standAt apos.atName
      let (f, first) ← holding [ov] (getMethod ov m pl)
      callWith pos f first (backTo pos (starEach [] X.env)) (backToKw pos (keywordEach [] X.env))) := by rfl) : PE X (.Call (.Attribute o m apos) [] [] pos) (tMeth C m sp dvs E0 ta tNil) := by
  obtain ⟨⟨fd, ds, a, b, r⟩, q⟩ := c
  exact pe_meth0 (pl := pl) he cl hm a hr b r pass0 ht
theorem pe_makeC (c : Cal X.prog X.w X.K X.mg X.base k f ps dvs sp) (hr : Room (k + 1) X.A) (M : Mk X.K C f) (hm : X.mg x = some (.ref C)) (ha : PA X (e :: es) t) (hg : Gl X x := by rfl) (hdb : (x == ("__debug__" : Str)) = false := by decide)
    (he : starEach (e :: es) X.env = (false, eval e X.env) :: starEach es X.env := by rfl) (hpl : (backTo pos (starEach es X.env)).any (·.1) = false := by rfl) : PE X (.Call (.Name x p) (e :: es) [] pos) (tMake C sp dvs E0 t) := by
  obtain ⟨⟨fd, ds, a, b, r⟩, q⟩ := c
  exact pe_make M a hr hg hm b r pass0 ha hdb he hpl
theorem pe_makeC0 (c : Cal X.prog X.w X.K X.mg X.base k f ps dvs sp) (hr : Room (k + 1) X.A) (M : Mk X.K C f) (hm : X.mg x = some (.ref C)) (hg : Gl X x := by rfl) (hdb : (x == ("__debug__" : Str)) = false := by decide) : PE X (.Call (.Name x p) [] [] pos) (tMake C sp dvs E0 tNil) := by
  obtain ⟨⟨fd, ds, a, b, r⟩, q⟩ := c
  exact pe_make0 M a hr hg hm b r pass0 hdb
theorem pe_smethC {mc : Value} {pa : Addr} {pl : Sem Bool} (c : Cal X.prog X.w X.K X.mg X.base k f ps dvs sp) (hr : Room k X.A) (rd : ClX.CRead X.K C mc) (sm : SMet X.K C mc m pa f) (he : PE X o ta) (ha : PA X (e :: es) t)
    (hst : starEach (e :: es) X.env = (false, eval e X.env) :: starEach es X.env := by rfl) (hpl : (backTo pos (starEach es X.env)).any (·.1) = false := by rfl)
    (ht : eval (.Call (.Attribute o m apos) (e :: es) [] pos) X.env = (do
      let ov ← eval o X.env
      standAt apos.atName
      let (f, first) ← holding [ov] (getMethod ov m pl)
      callWith pos f first (backTo pos (starEach (e :: es) X.env)) (backToKw pos (keywordEach [] X.env))) := by rfl) : PE X (.Call (.Attribute o m apos) (e :: es) [] pos) (tSMeth C sp dvs E0 ta t) := by
  obtain ⟨⟨fd, ds, a, b, r⟩, q⟩ := c
  exact pe_smeth (pl := pl) he rd sm a hr b r pass0 ha hst hpl ht
end
/-- THE RULE: a def of the text, its body, its promise; bi: how its arguments bind -/
theorem cal_of {P : Program} {w : World} {K : PySem.W.Frag} {mg : Str → Option Value} {base : Heap} {nm ql : Str} {pr : Arguments} {bd : List Stmt} {sc : Scope} {dvs0 dvs : List V} {f : Addr} {fd : FuncData} {N ps : List Str} {k : Nat} {sp : Sp}
    (F : FunD K nm ql pr bd sc dvs0 [] f fd) (S : FnScope N ps sc) (bi : ∃ ds, Vals dvs ds ∧ Binds K fd ps ds) (len : ∀ vs H Q E, sp vs H Q E → vs.length = ps.length)
    (hbody : ∀ (cdv : Value) (A : Around) (outer : List Env) (s : Shared) (H : Hp) (vs : List V) (Q : VK) (E : XK), Room k (A.deeper (envOfC ql sc s.heap.objs.size f cdv)) → sp vs H Q E →
      ∃ t, PSs (cxOf CX0 P w K mg base N ql sc f cdv A outer s H E).nox bd t ∧ t { nx := fun _ H' => Q .non H', rt := Q } (start N vs) H) : Cal P w K mg base (k + 1) f ps dvs sp := by
  obtain ⟨ds, r, b⟩ := bi
  exact ⟨⟨fd, ds, F.ok S len fun cdv A outer s H vs Q E hr h => by
    obtain ⟨t, h1, h2⟩ := hbody cdv A outer s H vs Q E hr h
    exact ⟨t, h1.nox, h2⟩, b, r⟩, F.kp⟩
theorem bi_plain {K : PySem.W.Frag} {nm ql : Str} {pr : Arguments} {bd : List Stmt} {sc : Scope} {f : Addr} {fd : FuncData} {ps : List Str} (F : FunD K nm ql pr bd sc [] [] f fd) (h : Binds K fd ps []) : ∃ ds, Vals [] ds ∧ Binds K fd ps ds := ⟨[], .nil, h⟩
end L2

set_option maxHeartbeats 4000000
/-! Texts as lists of codes. -/
namespace Tx
open PySem PySem.Spec PyProof.Rows L2 SX
theorem cps_S (l : List Nat) : (S l).cps.toList = l := rfl
theorem size_S (l : List Nat) : (S l).cps.size = l.length := by simp [S]
theorem at_S (l : List Nat) (i : Nat) : (S l).cps[i]? = l[i]? := by simp [S]
/-- a slice between two places -/
theorem cut_S (l : List Nat) {i j : Nat} (hi : i ≤ l.length) (hj : j ≤ l.length) : cutS (S l) (some (i : Int)) (some (j : Int)) = S ((l.drop i).take (j - i)) := by
  unfold cutS
  rw [HT.sIx_nat, HT.sIx_nat, S_len, Nat.min_eq_left hi, Nat.min_eq_left hj]
/-- two signs from a place on -/
theorem cut2_S (l : List Nat) {i : Nat} (hi : i ≤ l.length) : cutS (S l) (some (i : Int)) (some ((i : Int) + 2)) = S ((l.drop i).take 2) := by
  unfold cutS
  have e : ((i : Int) + 2) = ((i + 2 : Nat) : Int) := by omega
  rw [e, HT.sIx_nat, HT.sIx_nat, S_len, Nat.min_eq_left hi]
  show S ((l.drop i).take (min (i + 2) l.length - i)) = _
  congr 1
  by_cases h : i + 2 ≤ l.length
  · rw [Nat.min_eq_left h, Nat.add_sub_cancel_left]
  · rw [Nat.min_eq_right (by omega)]
    have h1 : (l.drop i).length = l.length - i := List.length_drop
    rw [List.take_of_length_le (by omega), List.take_of_length_le (by omega)]
theorem len63 {l : List Nat} (h : l.length ≤ 100000) : (S l).length ≤ sizeLine := by
  rw [S_len]
  exact Nat.le_trans h (by decide)
/-- the first place from i on with the sign c -/
theorem find_sign {l pre rest : List Nat} {c i : Nat} (h : l.drop i = pre ++ c :: rest) (hc : c ∉ pre) (hi : i ≤ l.length) : Txt.find3 (S l) (S [c]) (i : Int) = ((i + pre.length : Nat) : Int) := by
  have hat : ∀ k, StrLaws.At (S l) (S [c]) (S l).length k ↔ l[k]? = some c := fun k => StrLaws.subAt_one (S l) c k
  have hl : l.length = i + (pre.length + (rest.length + 1)) := by
    have := congrArg List.length h
    rw [List.length_drop, List.length_append, List.length_cons] at this
    omega
  have hget : ∀ k, l[i + k]? = (pre ++ c :: rest)[k]? := fun k => by
    rw [← h, List.getElem?_drop]
  have fi : PySem.fromIndex (S l).length (i : Int) = i := by
    unfold PySem.fromIndex
    rw [if_neg (by omega)]
    omega
  unfold Txt.find3
  rw [fi, StrLaws.occ_eq]
  rcases StrLaws.occ_first (S l) (S [c]) (S l).length 1 (Nat.le_refl 1) (List.range' i ((S l).length + 1 - i)) i (fun k hk => (List.mem_range'_1.mp hk).1) with ⟨_, hn⟩ | ⟨p, a, post, e, h0, ha, hn⟩
  · exfalso
    refine hn (i + pre.length) ?_ ((hat _).mpr ?_)
    · rw [List.mem_range'_1, S_len]
      omega
    · rw [hget, List.getElem?_append_right (Nat.le_refl _), Nat.sub_self]
      rfl
  · have am : a ∈ List.range' i ((S l).length + 1 - i) := by rw [e]; simp
    have ai := (List.mem_range'_1.mp am).1
    have ap : p = List.range' i p.length ∧ a = i + p.length := by
      have e2 : List.range' i ((S l).length + 1 - i) = List.range' i p.length ++ List.range' (i + p.length) ((S l).length + 1 - i - p.length) := by
        have hlen := congrArg List.length e
        rw [List.length_range', List.length_append, List.length_cons] at hlen
        rw [List.range'_append_1]
        congr 1
        omega
      have hlen := congrArg List.length e
      rw [List.length_range', List.length_append, List.length_cons] at hlen
      rw [e2] at e
      have q := List.append_inj e (by rw [List.length_range'])
      refine ⟨q.1.symm, ?_⟩
      have q2 := q.2
      have z : (S l).length + 1 - i - p.length = ((S l).length + 1 - i - p.length - 1) + 1 := by omega
      rw [z, List.range'_succ] at q2
      exact (List.cons.inj q2).1.symm
    have hpl : p.length = pre.length := by
      have x1 : ¬ p.length < pre.length := fun hlt => by
        have q := (hat a).mp ha
        rw [ap.2, hget, List.getElem?_append_left hlt] at q
        exact hc (List.mem_of_getElem? q)
      have x2 : ¬ pre.length < p.length := fun hlt => by
        refine hn (i + pre.length) ?_ ((hat _).mpr ?_)
        · rw [ap.1, List.mem_range'_1]
          omega
        · rw [hget, List.getElem?_append_right (Nat.le_refl _), Nat.sub_self]
          rfl
      omega
    generalize (forIn (List.range' i ((S l).length + 1 - i)) ((#[] : Array Nat), i) (StrLaws.occBody (S l) (S [c]) (S l).length 1)).run.fst = ra at h0
    obtain ⟨res⟩ := ra
    have h00 : res[0]? = some a := by simpa using h0
    show (match res with | k :: _ => (k : Int) | [] => -1) = _
    cases res with
    | nil => cases h00
    | cons x r =>
      have e3 : x = a := Option.some.inj h00
      show ((x : Nat) : Int) = _
      rw [e3, ap.2, hpl]
theorem numL_digits (n : Nat) : NumText.AllDigits (TL.numL n) := fun c hc => by
  obtain ⟨ch, hch, e⟩ := List.mem_map.mp hc
  have r := digit_range (Nat.isDigit_of_mem_toDigits (by decide) (by decide) hch)
  rw [← e]
  exact r
theorem numL_ne (n : Nat) : TL.numL n ≠ [] := by
  intro e
  have h := toDigits_len_ge 10 n
  rw [List.map_eq_nil_iff.mp e] at h
  exact absurd h (by decide)
theorem int_numL {n : Nat} (h : (TL.numL n).length ≤ 640) : PySem.intText? (S (TL.numL n)) = some (n : Int) := by
  have e := intText_digits (x := S (TL.numL n)) (numL_digits n) (numL_ne n) (by rw [S_len]; exact Nat.le_trans h (by decide))
  rw [e]
  show some (((NumText.digitsVal (TL.numL n) : Nat)) : Int) = _
  rw [show NumText.digitsVal (TL.numL n) = n from PySem.W.KIN.val_back n]
end Tx
namespace Tx
open PySem PySem.Spec PyProof.Rows L2 SX
/-! ### data that is read -/
theorem sqT_same {K : PySem.W.Frag} {H H' : Hp} {a : Addr} {xs : List V} (e : Same H H') (h : SqT K H a xs) : SqT K H' a xs := by
  rcases h with (h | ⟨o, h⟩) | h
  · exact .inl (.inl (e _ _ h))
  · exact .inl (.inr ⟨o, e _ _ h⟩)
  · exact .inr h
mutual
theorem dp_same {K : PySem.W.Frag} {H H' : Hp} (e : Same H H') : ∀ {v : V} {d : PyData}, Dp K H v d → Dp K H' v d
  | _, _, .non => .non
  | _, _, .bl b => .bl b
  | _, _, .int i => .int i
  | _, _, .str x => .str x
  | _, _, .lst h a => .lst (e.seq h) (dpa_same e a)
  | _, _, .tup h a => .tup (sqT_same e h) (dpa_same e a)
theorem dpa_same {K : PySem.W.Frag} {H H' : Hp} (e : Same H H') : ∀ {vs : List V} {ds : List PyData}, DpAll K H vs ds → DpAll K H' vs ds
  | _, _, .nil => .nil
  | _, _, .cons h t => .cons (dp_same e h) (dpa_same e t)
end
theorem same_upd {H : Hp} {p : Addr} (h : H p = none) (o : HO) : Same H (upd H p o) := fun b u e => by
  rw [upd_ne (ne_of_none e h)]
  exact e
/-- all but the object at p is as it was -/
def But (p : Addr) (H H' : Hp) : Prop := ∀ b o, b ≠ p → H b = some o → H' b = some o
theorem But.of {p : Addr} {H H' : Hp} (e : Same H H') : But p H H' := fun b o _ h => e b o h
theorem But.refl (p : Addr) (H : Hp) : But p H H := fun _ _ _ h => h
theorem But.trans {p : Addr} {H H1 H2 : Hp} (a : But p H H1) (b : But p H1 H2) : But p H H2 := fun c o n h => b c o n (a c o n h)
theorem but_upd {p : Addr} {H : Hp} (o : HO) : But p H (upd H p o) := fun b u n e => by
  rw [upd_ne n]
  exact e
/-- what is no list, no tuple -/
def NoSeq (o : Option HO) : Prop := match o with
  | some (.ins _ _ _) => True
  | some (.own _) => True
  | _ => False
theorem NoSeq.t {H : Hp} {p a : Addr} {xs : List V} (n : NoSeq (H p)) (h : Rd H a (.tup xs)) : a ≠ p := by
  rintro rfl
  rcases h with h | ⟨o, h⟩ <;> · rw [h] at n; exact n
theorem NoSeq.l {H : Hp} {p a : Addr} {xs : List V} (n : NoSeq (H p)) (h : Rd H a (.lst xs)) : a ≠ p := by
  rintro rfl
  rcases h with h | ⟨o, h⟩ <;> · rw [h] at n; exact n
theorem sqT_but {K : PySem.W.Frag} {H H' : Hp} {p a : Addr} {xs : List V} (n : NoSeq (H p)) (e : But p H H') (h : SqT K H a xs) : SqT K H' a xs := by
  rcases h with h | h
  · have z := n.t h
    rcases h with h | ⟨o, h⟩
    · exact .inl (.inl (e _ _ z h))
    · exact .inl (.inr ⟨o, e _ _ z h⟩)
  · exact .inr h
theorem sqL_but {K : PySem.W.Frag} {H H' : Hp} {p a : Addr} {xs : List V} (n : NoSeq (H p)) (e : But p H H') (h : SqL K H a xs) : SqL K H' a xs := by
  rcases h with h | h
  · have z := n.l h
    rcases h with h | ⟨o, h⟩
    · exact .inl (.inl (e _ _ z h))
    · exact .inl (.inr ⟨o, e _ _ z h⟩)
  · exact .inr h
mutual
theorem dp_but {K : PySem.W.Frag} {H H' : Hp} {p : Addr} (n : NoSeq (H p)) (e : But p H H') : ∀ {v : V} {d : PyData}, Dp K H v d → Dp K H' v d
  | _, _, .non => .non
  | _, _, .bl b => .bl b
  | _, _, .int i => .int i
  | _, _, .str x => .str x
  | _, _, .lst h a => .lst (sqL_but n e h) (dpa_but n e a)
  | _, _, .tup h a => .tup (sqT_but n e h) (dpa_but n e a)
theorem dpa_but {K : PySem.W.Frag} {H H' : Hp} {p : Addr} (n : NoSeq (H p)) (e : But p H H') : ∀ {vs : List V} {ds : List PyData}, DpAll K H vs ds → DpAll K H' vs ds
  | _, _, .nil => .nil
  | _, _, .cons h t => .cons (dp_but n e h) (dpa_but n e t)
end
/-- a new tuple of data -/
theorem dp_new {K : PySem.W.Frag} {H : Hp} {p : Addr} {vs : List V} {ds : List PyData} (h : H p = none) (a : DpAll K H vs ds) : Dp K (upd H p (.tup vs)) (.ref p) (.tuple ds) := .tup (.inl (.inl upd_same)) (dpa_same (same_upd h _) a)
/-- hands back new data -/
def Ret (K : PySem.W.Frag) (H : Hp) (Q : VK) (d : PyData) : Prop := ∀ v H', Same H H' → Dp K H' v d → Q v H'
theorem dpa_get {K : PySem.W.Frag} {H : Hp} : ∀ {vs : List V} {ds : List PyData} {i : Nat} {d : PyData}, DpAll K H vs ds → ds[i]? = some d → ∃ v, vs[i]? = some v ∧ Dp K H v d
  | _, _, _, _, .nil, h => by cases h
  | _, _, 0, d, .cons h _, e => by
    cases e
    exact ⟨_, rfl, h⟩
  | _, _, i + 1, d, .cons _ t, e => dpa_get (i := i) t e
theorem dpa_len {K : PySem.W.Frag} {H : Hp} : ∀ {vs : List V} {ds : List PyData}, DpAll K H vs ds → vs.length = ds.length
  | _, _, .nil => rfl
  | _, _, .cons _ t => congrArg Nat.succ (dpa_len t)
theorem dp_str {K : PySem.W.Frag} {H : Hp} {v : V} {x : Str} (h : Dp K H v (.str x)) : v = .str x := by cases h; rfl
theorem dp_int {K : PySem.W.Frag} {H : Hp} {v : V} {i : Int} (h : Dp K H v (.int i)) : v = .int i := by cases h; rfl
theorem dp_tup {K : PySem.W.Frag} {H : Hp} {v : V} {ds : List PyData} (h : Dp K H v (.tuple ds)) : ∃ a vs, v = .ref a ∧ SqT K H a vs ∧ DpAll K H vs ds := by
  cases h with
  | tup h a => exact ⟨_, _, rfl, h, a⟩
theorem numL_head : ∀ n : Nat, 10 ≤ n → (TL.numL n).head? ≠ some 48 := by
  intro n
  induction n using Nat.strongRecOn with
  | ind n ih =>
    intro h
    rw [TL.numL_step h]
    by_cases h2 : n / 10 < 10
    · rw [TL.numL_lt h2]
      simp
      omega
    · have z := ih (n / 10) (by omega) (by omega)
      cases e : TL.numL (n / 10) with
      | nil => exact absurd e (numL_ne _)
      | cons a r =>
        rw [e] at z
        exact z
theorem numL_one {n : Nat} (h : 1 < (TL.numL n).length) : (TL.numL n).head? ≠ some 48 := by
  by_cases h2 : n < 10
  · rw [TL.numL_lt h2] at h
    exact absurd h (by simp)
  · exact numL_head n (by omega)
end Tx

set_option maxHeartbeats 4000000
/-! Generator defs as their callers know them; yield from a list. -/
namespace L2
open PySem PySem.Spec PyProof.Rows GenW
structure GCal (P : Program) (w : World) (K : PySem.W.Frag) (mg : Str → Option Value) (base : Heap) (k : Nat) (f : Addr) (ps : List Str) (dvs : List V) (sp : SpG) : Prop where
  how : ∃ fd ds, GFn P w K mg base k f fd ps sp ∧ Binds K fd ps ds ∧ Vals dvs ds
  kpt : PySem.W.keepIn K (.ref f) = true
theorem gcal_of {P : Program} {w : World} {K : PySem.W.Frag} {mg : Str → Option Value} {base : Heap} {nm ql : Str} {pr : Arguments} {bd : List Stmt} {sc : Scope} {dvs0 dvs : List V} {f : Addr} {fd : FuncData} {N ps : List Str} {k : Nat} {sp : SpG}
    (F : FunD K nm ql pr bd sc dvs0 [] f fd) (S : GScope N ps sc) (bi : ∃ ds, Vals dvs ds ∧ Binds K fd ps ds) (len : ∀ vs H Q E, sp vs H Q E → vs.length = ps.length)
    (hbody : ∀ (cdv : Value) (A : Around) (outer : List Env) (s : Shared) (H : Hp) (vs : List V) (Q : List V → Hp → Prop) (E : XK) (pn : List (Addr × Obj)), Room k (A.deeper (envOfC ql sc s.heap.objs.size f cdv)) → sp vs H Q E →
      ∃ t, GSs (gcxOf P w K mg base N ql sc f cdv A outer s H E pn) bd t ∧ t { nx := fun ys _ H' => Q ys H', rt := fun ys v H' => v = .non ∧ Q ys H' } [] (start N vs) H) : GCal P w K mg base (k + 1) f ps dvs sp := by
  obtain ⟨ds, r, b⟩ := bi
  have kp := F.kp
  obtain ⟨oc, od, dV, kV, doc, pm, an, cdv, ct, osl, e, lk, hcd, _, _⟩ := F.ex
  subst e
  exact ⟨⟨_, ds, gfn_of lk hcd S len fun A outer s H vs Q E pn hr h => hbody cdv A outer s H vs Q E pn hr h, b, r⟩, kp⟩
theorem passG {X : Cx} : Passes (CX X.prog X.w) X E0 := fun _ _ _ _ _ _ _ h => by
  obtain ⟨_, _, _, _, _, _, _, _, _, _, _, _, z⟩ := h
  exact z.elim
theorem noStop0 {K : PySem.W.Frag} : NoStop K E0 := fun _ _ _ h => h.elim
section
variable {X : Cx} {k : Nat} {f C : Addr} {ps : List Str} {dvs : List V} {sp : SpG} {x nm m : Str} {p p2 pos pos2 apos : Pos} {e o : Expr} {es : List Expr} {t : TA} {ta : TE}
/-- list(f(..)) -/
theorem pe_listC (c : GCal X.prog X.w X.K X.mg X.base k f ps dvs sp) (hr : Room (k + 3) X.A) (hm : X.mg x = some (.ref f)) (hl : X.mg nm = none) (ha : PA X (e :: es) t) (hg : Gl X x := by rfl) (hg2 : Gl X nm := by rfl) (hv : bootBuiltins nm = some (.type "list") := by decide +kernel)
    (hnm : nm ≠ "__name__" := by decide) (hdb : (nm == ("__debug__" : Str)) = false := by decide) (hdb2 : (x == ("__debug__" : Str)) = false := by decide)
    (he : starEach (e :: es) X.env = (false, eval e X.env) :: starEach es X.env := by rfl) (hpl : (backTo pos (starEach es X.env)).any (·.1) = false := by rfl)
    (he2 : starEach [.Call (.Name x p) (e :: es) [] pos] X.env = (false, eval (.Call (.Name x p) (e :: es) [] pos) X.env) :: starEach [] X.env := by rfl) :
    PE X (.Call (.Name nm p2) [.Call (.Name x p) (e :: es) [] pos] [] pos2) (tListG (tCallG sp dvs E0 t)) := by
  obtain ⟨⟨fd, ds, a, b, r⟩, q⟩ := c
  exact pe_listG (pgen_call a (hr.mono (by omega)) hg hm q b r ha hdb2 he hpl) passG noStop0 hr hg2 hl hv hnm hdb he2
/-- list(o.m()) -/
theorem pe_listM0 {pl : Sem Bool} (c : GCal X.prog X.w X.K X.mg X.base k f ps dvs sp) (hr : Room (k + 3) X.A) (cl : Cls X.K C) (hm : Meth X.K C m f) (hl : X.mg nm = none) (ho : PE X o ta) (hg2 : Gl X nm := by rfl) (hv : bootBuiltins nm = some (.type "list") := by decide +kernel)
    (hnm : nm ≠ "__name__" := by decide) (hdb : (nm == ("__debug__" : Str)) = false := by decide)
    (ht : eval (.Call (.Attribute o m apos) [] [] pos) X.env = (do
      let ov ← eval o X.env
      standAt apos.atName
      let (f, first) ← holding [ov] (getMethod ov m pl)
      callWith pos f first (backTo pos (starEach [] X.env)) (backToKw pos (keywordEach [] X.env))) := by rfl)
    (he2 : starEach [.Call (.Attribute o m apos) [] [] pos] X.env = (false, eval (.Call (.Attribute o m apos) [] [] pos) X.env) :: starEach [] X.env := by rfl) :
    PE X (.Call (.Name nm p2) [.Call (.Attribute o m apos) [] [] pos] [] pos2) (tListG (tMethG C m sp dvs E0 ta tNil)) := by
  obtain ⟨⟨fd, ds, a, b, r⟩, q⟩ := c
  exact pe_listG (pgen_meth0 (pl := pl) ho cl hm a (hr.mono (by omega)) b r ht) passG noStop0 hr hg2 hl hv hnm hdb he2
end
/-! ### yield from a list -/
section
variable {prog : Program} {w : World} {A : Around} {E : Value → Shared → Prop} {s : Shared}
theorem nxt_lst_item {it l : Addr} {i : Nat} {its : Array Value} {x : Value} {Q : Option Value → Shared → Prop} (hit : s.heap.IsListIter it l i) (hl : s.heap.IsList l its) (hx : its[i]? = some x)
    (hQ : ∀ h', h'.IsListIter it l (i + 1) → Heap.SameBut it s.heap h' → Q (some x) { s with heap := h' }) : wpAny (model prog w) A (callSpecial? (.ref it) "__next__") Q E s := by
  obtain ⟨oi, hoi, hci, hdi⟩ := id hit
  obtain ⟨oz, hoz, _, nz, hdz⟩ := hl
  refine wpAny_callSpecial?_slot (name := Str.ofString "__next__") hit.typeIs slot_listiter_next (wpAny_call_entry slot_listiter_next hit.typeIs entry_listiter_next ?_ (args_listiter_next _))
  show wpAny (model prog w) A.in1 (field (.ref it) 0 >>= _) _ _ s
  refine wpAny_bind (wpAny_field hoi hdi (x := .ref l) rfl ?_)
  show wpAny (model prog w) A.in1 (if (Value.ref l == Value.none) = true then _ else _) _ _ s
  refine (if_neg (c := (Value.ref l == Value.none) = true) Bool.false_ne_true) ▸ ?_
  show wpAny (model prog w) A.in1 (field (.ref it) 1 >>= _) _ _ s
  refine wpAny_bind (wpAny_field hoi hdi (x := .int i 0) rfl ?_)
  show wpAny (model prog w) A.in1 (seqItems? (.ref l) >>= _) _ _ s
  refine wpAny_bind (wpAny_seqItems hoz hdz ?_)
  simp only [Int.toNat_natCast, hx]
  refine wpAny_bind (wpAny_setField hoi hdi (by simp) (wpAny_pure ⟨x, rfl, hQ _ ?_ (Heap.SameBut.update ..)⟩))
  refine ⟨_, Heap.get?_update_self _ hoi (Obj.isFreed_of_fields (Obj.data_mapFields hdi _)), (Obj.cls_mapFields ..).trans hci, ?_⟩
  rw [Obj.data_mapFields hdi]
  simp [rawInt]
theorem nxt_lst_end {it l : Addr} {i : Nat} {its : Array Value} {Q : Option Value → Shared → Prop} (hh : A.handled = none) (hit : s.heap.IsListIter it l i) (hl : s.heap.IsList l its) (hx : its[i]? = none)
    (hE : ∀ e h', StopX e h' → Heap.ExtBut it s.heap h' → E e { s with heap := h' }) : wpAny (model prog w) A (callSpecial? (.ref it) "__next__") Q E s := by
  obtain ⟨oi, hoi, hci, hdi⟩ := id hit
  obtain ⟨oz, hoz, _, nz, hdz⟩ := hl
  refine wpAny_callSpecial?_slot (name := Str.ofString "__next__") hit.typeIs slot_listiter_next (wpAny_call_entry slot_listiter_next hit.typeIs entry_listiter_next ?_ (args_listiter_next _))
  show wpAny (model prog w) A.in1 (field (.ref it) 0 >>= _) _ _ s
  refine wpAny_bind (wpAny_field hoi hdi (x := .ref l) rfl ?_)
  show wpAny (model prog w) A.in1 (if (Value.ref l == Value.none) = true then _ else _) _ _ s
  refine (if_neg (c := (Value.ref l == Value.none) = true) Bool.false_ne_true) ▸ ?_
  show wpAny (model prog w) A.in1 (field (.ref it) 1 >>= _) _ _ s
  refine wpAny_bind (wpAny_field hoi hdi (x := .int i 0) rfl ?_)
  show wpAny (model prog w) A.in1 (seqItems? (.ref l) >>= _) _ _ s
  refine wpAny_bind (wpAny_seqItems hoz hdz ?_)
  simp only [Int.toNat_natCast, hx]
  refine wpAny_bind (wpAny_rule (wpAny_bind (wpAny_setField hoi hdi (by simp) ?_)))
  show wpAny (model prog w) A.in1 (newExc (.type "StopIteration") [] >>= _) _ _ _
  refine wpAny_bind ?_
  simp only [newExc, newTuple]
  refine wpAny_bind (wpAny_newObj_type ?_ (by size_fits))
  refine wpAny_bind (m := firstArgMember _ _) (wpAny_of_eq (a := Value.none) (by first | rfl | (simp only [firstArgMember]; rfl)) ?_)
  refine wpAny_newObj_type ?_ (by size_fits)
  simp only [raiseNew]
  refine wpAny_bind (wpAny_handled ?_)
  first | rw [show A.in1.handled = none from hh] | rw [hh]
  refine wpAny_bind (wpAny_pure (wpAny_throw ?_))
  refine hE _ _ ⟨_, _, _, rfl, Heap.get?_push_size _ rfl, rfl, rfl, ?_⟩ (((Heap.SameBut.update ..).extBut.push _).push _)
  first
    | rfl
    | (rw [Array.getElem?_append_left (by decide)]; rfl)
    | kernel_rfl
end
section
variable {X : Cx} {e : Expr} {te : TE}
def tYfLst (te : TE) : TYf := fun σ H Q => te σ H fun x H1 => ∃ a xs, x = .ref a ∧ H1 a = some (.lst xs) ∧ Q xs H1
theorem close_lst : typeLookup (.type "list_iterator") "close" = pure none := by rw [typeLookup_type, builtinLookup_eq_fast]; kernel_rfl
theorem yf_lst (he : PE X e te) : YfE X e (tYfLst te) := by
  refine ⟨fun pins s σ H Q I h => ?_⟩
  refine thn (he.run pins s σ H _ I h) fun v s1 ⟨x, H1, I1, r1, a, xs, ex, ha, hq⟩ => ?_
  subst ex
  cases (show v = Value.ref a from r1)
  obtain ⟨its, rits, pl, hlen⟩ := I1.list (SqL.of ha)
  have hL := pl.isList
  refine ⟨"list", hL.typeIs, by decide, iter_any hL fun s2 es2 hi hne => ?_⟩
  subst es2
  have ksz : ∀ b o, s1.heap.get? b = some o → b ≠ s1.heap.objs.size := fun b o z => Nat.ne_of_lt (Heap.lt_size z)
  have kp : ∀ b o, s1.heap.get? b = some o → (s1.heap.push { cls := .type "list_iterator", data := .fields #[.ref a, .int 0 0] }).get? b = some o := fun b o z => Heap.get?_push_of_some _ z
  refine ⟨s1.heap.objs.size, H1, xs, fun j h => h.IsListIter s1.heap.objs.size a j ∧ h.IsList a its.toArray, rfl, I1.kept (t' := s1.toks) kp, .inr I1.sz, Nat.ne_of_gt I1.lt, fun y c hy => ?_, I1.hok.fresh (Nat.le_refl _), fun p hp => ?_,
    hi, ⟨⟨"list_iterator", fun j h q => ?_, close_lst, by decide⟩, fun j h h' q hk => ?_, fun A' j x s3 Q' E' hA hx q hQ => ?_, fun A' s3 Q' E' hA q hE => ?_⟩, hq⟩
  · obtain ⟨v, o, ho, _⟩ := I1.cell y c hy
    exact ksz c o ho
  · exact ksz p.1 _ (I1.pin p hp).1
  · obtain ⟨⟨o, ho, hc, _⟩, _⟩ := q
    exact ⟨o, ho, hc⟩
  · obtain ⟨q1, q2⟩ := q
    exact ⟨q1.at fun o z => hk _ o (.inl rfl) z, q2.at fun o z => hk _ o (.inr (by rw [ha]; exact fun z => by cases z)) z⟩
  · obtain ⟨q1, q2⟩ := q
    obtain ⟨u, hu, ru⟩ := rits.get hx
    exact nxt_lst_item q1 q2 (x := u) (by simpa using hu) fun h' q1' hs => hQ u h' s3.toks ru ⟨q1', q2.extBut hs.extBut hne⟩ fun b o hb eb => hs.extBut b o hb eb
  · obtain ⟨q1, q2⟩ := q
    have hnone : its.toArray[xs.length]? = none := by
      have e1 := rits.length
      have e2 : its[xs.length]? = none := List.getElem?_eq_none_iff.mpr (by omega)
      simpa using e2
    exact nxt_lst_end hA q1 q2 hnone fun e h' hS hk => hE e h' s3.toks hS fun b o hb eb => hk b o hb eb
end
end L2

set_option maxHeartbeats 4000000
namespace Lx
open PySem PySem.Spec PyProof.Rows L2 He SX Tx
def top (i : Nat) : Stmt := PySem.Challenge.pw_pastslips_k70_read_simple_statements.main.body.getD i (.Pass ⟨0, 0, 0, 0⟩)
/-! ### constants of the module as values -/
section
variable {X : Cx} {x : Str} {pos : Pos}
theorem pe_gI {i : Int} (h : ∃ t, X.mg x = some (.int i t)) (hg : Gl X x := by rfl) (hd : (x == ("__debug__" : Str)) = false := by decide) : PE X (.Name x pos) (tC (.int i)) := let ⟨t, e⟩ := h; pe_glob hg e ⟨t, rfl⟩ hd
theorem pe_gS {z : Str} (h : ∃ t, X.mg x = some (.str z t)) (hg : Gl X x := by rfl) (hd : (x == ("__debug__" : Str)) = false := by decide) : PE X (.Name x pos) (tC (.str z)) := let ⟨t, e⟩ := h; pe_glob hg e ⟨t, rfl⟩ hd
theorem pe_gR {a : Addr} (h : X.mg x = some (.ref a)) (hg : Gl X x := by rfl) (hd : (x == ("__debug__" : Str)) = false := by decide) : PE X (.Name x pos) (tC (.ref a)) := pe_glob hg h rfl hd
end
/-! ### runs of signs -/
def runEnd (l sg : List Nat) (i : Nat) : Nat := i + ((l.drop i).takeWhile fun c => decide (c ∈ sg)).length
theorem runEnd_le (l sg : List Nat) {i : Nat} (h : i ≤ l.length) : i ≤ runEnd l sg i ∧ runEnd l sg i ≤ l.length := by
  unfold runEnd
  have h1 := List.takeWhile_prefix (fun c => decide (c ∈ sg)) (l := l.drop i)
  have h2 := h1.length_le
  rw [List.length_drop] at h2
  omega
theorem runEnd_step {l sg : List Nat} {i c : Nat} (h : l[i]? = some c) (hc : c ∈ sg) : runEnd l sg (i + 1) = runEnd l sg i := by
  obtain ⟨hi, e⟩ := List.getElem?_eq_some_iff.mp h
  unfold runEnd
  rw [List.drop_eq_getElem_cons hi, List.takeWhile_cons, e, if_pos (decide_eq_true hc), List.length_cons]
  omega
theorem runEnd_stop {l sg : List Nat} {i c : Nat} (h : l[i]? = some c) (hc : ¬ c ∈ sg) : runEnd l sg i = i := by
  obtain ⟨hi, e⟩ := List.getElem?_eq_some_iff.mp h
  unfold runEnd
  rw [List.drop_eq_getElem_cons hi, List.takeWhile_cons, e, if_neg (by simpa using hc)]
  rfl
theorem runEnd_end {l sg : List Nat} {i : Nat} (h : l.length ≤ i) : runEnd l sg i = i := by
  unfold runEnd
  rw [List.drop_of_length_le h]
  rfl
/-! ### tokens -/
def DIG : List Nat := [48, 49, 50, 51, 52, 53, 54, 55, 56, 57]
def LET : List Nat := [97, 98, 99, 100, 101, 102, 103, 104, 105, 106, 107, 108, 109, 110, 111, 112, 113, 114, 115, 116, 117, 118, 119, 120, 121, 122]
def WCH : List Nat := LET ++ DIG ++ [95]
def BLK : List Nat := [32, 10, 9]
def SGN : List Nat := [61, 60, 43, 45, 42, 40, 41, 123, 125, 44, 59]
def PRS : List (List Nat) := [[61, 61], [33, 61], [60, 61]]
theorem dig_iff {c : Nat} : c ∈ DIG ↔ 48 ≤ c ∧ c ≤ 57 := by
  unfold DIG
  simp only [List.mem_cons, List.not_mem_nil, or_false]
  omega
theorem let_iff {c : Nat} : c ∈ LET ↔ 97 ≤ c ∧ c ≤ 122 := by
  unfold LET
  simp only [List.mem_cons, List.not_mem_nil, or_false]
  omega
inductive Tk where
  | num (n : Nat) | txt (l : List Nat) | word (l : List Nat) | sign (l : List Nat) | eof
  deriving DecidableEq
def Tk.kind : Tk → Str
  | .num _ => "number" | .txt _ => "text" | .word _ => "word" | .sign _ => "sign" | .eof => "end"
def Tk.worth : Tk → PyData
  | .num n => .int n | .txt l => .str (S l) | .word l => .str (S l) | .sign l => .str (S l) | .eof => .str ""
def tokD (t : Tk) (ix : Nat) : PyData := .tuple [.str t.kind, t.worth, .int ix]
/-- the signs of a token -/
def Tk.codes : Tk → List Nat
  | .num n => TL.numL n | .txt l => 34 :: (l ++ [34]) | .word l => l | .sign l => l | .eof => []
/-- what may follow a token -/
def Tk.ends : Tk → List Nat → Prop
  | .num _, r => ∀ c ∈ r.head?, ¬ c ∈ DIG
  | .txt _, _ => True
  | .word _, r => ∀ c ∈ r.head?, ¬ c ∈ WCH
  | .sign l, r => l.length = 1 → ¬ (l ++ r.take 1) ∈ PRS
  | .eof, _ => False
/-- a token that can stand -/
def Tk.ok : Tk → Prop
  | .num n => (TL.numL n).length ≤ 18
  | .txt l => ∀ c ∈ l, 32 ≤ c ∧ c ≤ 126 ∧ c ≠ 34
  | .word l => l ≠ [] ∧ (∀ c ∈ l.head?, c ∈ LET) ∧ ∀ c ∈ l, c ∈ WCH
  | .sign l => l ∈ PRS ∨ ∃ c, l = [c] ∧ c ∈ SGN
  | .eof => False
structure TokAt (l : List Nat) (i : Nat) (t : Tk) (j : Nat) : Prop where
  at_ : ∃ r, l.drop i = t.codes ++ r ∧ t.ends r
  ok : t.ok
  to : j = i + t.codes.length
theorem runEnd_app {l sg p r : List Nat} {i : Nat} (h : l.drop i = p ++ r) (hp : ∀ c ∈ p, c ∈ sg) (hr : ∀ c ∈ r.head?, ¬ c ∈ sg) : runEnd l sg i = i + p.length := by
  unfold runEnd
  rw [h, List.takeWhile_append_of_pos (fun c hc => decide_eq_true (hp c hc))]
  cases r with
  | nil => simp
  | cons a r =>
    have := hr a (by simp)
    rw [List.takeWhile_cons, if_neg (by simpa using this)]
    simp
/-- the operators by rank; the table of calls -/
def RKS : List (List Str) := [["or"], ["and"], ["==", "!=", "<", "<="], ["+", "-"], ["*"]]
def rk (K : PySem.W.Frag) (i : Nat) : Addr := match K.lookup (ga K "RANKS") with
  | some ⟨_, _, .seq its _, _⟩ => (match its.toList[i]? with
    | some (.ref a) => a
    | _ => 0)
  | _ => 0
def PRM : List (Str × Int) := [("node", 1), ("kids", 1), ("text", 1), ("kind", 1), ("level", 1), ("inner", 1), ("holder", 1), ("find", 1), ("size", 1), ("item", 2), ("written", 1), ("not", 1), ("insert", 4), ("pocket", 4), ("change", 2), ("move", 3), ("copy", 3), ("delete", 1)]
/-! ### the text, the facts -/
abbrev s_is_plain : Stmt := top 11
theorem sc_is_plain : FnScope ["sign"] ["sign"] (defScope s_is_plain) := ⟨rfl, rfl, rfl, by decide +kernel, rfl, by decide +kernel, by decide +kernel⟩
abbrev s_run_end : Stmt := top 12
theorem sc_run_end : FnScope ["text", "at", "signs"] ["text", "at", "signs"] (defScope s_run_end) := ⟨rfl, rfl, rfl, by decide +kernel, rfl, by decide +kernel, by decide +kernel⟩
abbrev s_number_token : Stmt := top 13
theorem sc_number_token : FnScope ["text", "at", "end", "digits"] ["text", "at"] (defScope s_number_token) := ⟨rfl, rfl, rfl, by decide +kernel, rfl, by decide +kernel, by decide +kernel⟩
abbrev s_text_token : Stmt := top 14
theorem sc_text_token : FnScope ["text", "at", "end", "worth", "place", "sign"] ["text", "at"] (defScope s_text_token) := ⟨rfl, rfl, rfl, by decide +kernel, rfl, by decide +kernel, by decide +kernel⟩
abbrev s_token_at : Stmt := top 15
theorem sc_token_at : FnScope ["text", "at", "sign", "end"] ["text", "at"] (defScope s_token_at) := ⟨rfl, rfl, rfl, by decide +kernel, rfl, by decide +kernel, by decide +kernel⟩
abbrev s_tokens_of : Stmt := top 16
theorem sc_tokens_of : GScope ["text", "at", "token", "end"] ["text"] (defScope s_tokens_of) := ⟨rfl, rfl, rfl, by decide +kernel, rfl, by decide +kernel, by decide +kernel⟩
abbrev s_Reader___init__ : Stmt := inClass (top 23) 0
theorem sc_Reader___init__ : FnScope ["self", "text"] ["self", "text"] (defScope s_Reader___init__) := ⟨rfl, rfl, rfl, by decide +kernel, rfl, by decide +kernel, by decide +kernel⟩
abbrev s_Reader_worth : Stmt := inClass (top 23) 1
theorem sc_Reader_worth : FnScope ["self", "kind", "token"] ["self", "kind"] (defScope s_Reader_worth) := ⟨rfl, rfl, rfl, by decide +kernel, rfl, by decide +kernel, by decide +kernel⟩
abbrev s_Reader_fail : Stmt := inClass (top 23) 2
theorem sc_Reader_fail : FnScope ["self"] ["self"] (defScope s_Reader_fail) := ⟨rfl, rfl, rfl, by decide +kernel, rfl, by decide +kernel, by decide +kernel⟩
abbrev s_Reader_skip : Stmt := inClass (top 23) 3
theorem sc_Reader_skip : FnScope ["self", "kind", "worth"] ["self", "kind", "worth"] (defScope s_Reader_skip) := ⟨rfl, rfl, rfl, by decide +kernel, rfl, by decide +kernel, by decide +kernel⟩
abbrev s_Reader_need : Stmt := inClass (top 23) 4
theorem sc_Reader_need : FnScope ["self", "kind", "worth"] ["self", "kind", "worth"] (defScope s_Reader_need) := ⟨rfl, rfl, rfl, by decide +kernel, rfl, by decide +kernel, by decide +kernel⟩
abbrev s_Reader_enter : Stmt := inClass (top 23) 5
theorem sc_Reader_enter : FnScope ["self"] ["self"] (defScope s_Reader_enter) := ⟨rfl, rfl, rfl, by decide +kernel, rfl, by decide +kernel, by decide +kernel⟩
abbrev s_Reader_name : Stmt := inClass (top 23) 6
theorem sc_Reader_name : FnScope ["self", "word"] ["self"] (defScope s_Reader_name) := ⟨rfl, rfl, rfl, by decide +kernel, rfl, by decide +kernel, by decide +kernel⟩
abbrev s_Reader_braced : Stmt := inClass (top 23) 7
theorem sc_Reader_braced : FnScope ["self", "found"] ["self"] (defScope s_Reader_braced) := ⟨rfl, rfl, rfl, by decide +kernel, rfl, by decide +kernel, by decide +kernel⟩
abbrev s_Reader_statement : Stmt := inClass (top 23) 8
theorem sc_Reader_statement : FnScope ["self", "word", "found"] ["self"] (defScope s_Reader_statement) := ⟨rfl, rfl, rfl, by decide +kernel, rfl, by decide +kernel, by decide +kernel⟩
abbrev s_Reader_compound : Stmt := inClass (top 23) 9
theorem sc_Reader_compound : FnScope ["self", "word", "block", "test", "name", "rows"] ["self", "word"] (defScope s_Reader_compound) := ⟨rfl, rfl, rfl, by decide +kernel, rfl, by decide +kernel, by decide +kernel⟩
abbrev s_Reader_other : Stmt := inClass (top 23) 10
theorem sc_Reader_other : FnScope ["self"] ["self"] (defScope s_Reader_other) := ⟨rfl, rfl, rfl, by decide +kernel, rfl, by decide +kernel, by decide +kernel⟩
abbrev s_Reader_operator : Stmt := inClass (top 23) 11
theorem sc_Reader_operator : FnScope ["self", "rank", "token"] ["self", "rank"] (defScope s_Reader_operator) := ⟨rfl, rfl, rfl, by decide +kernel, rfl, by decide +kernel, by decide +kernel⟩
abbrev s_Reader_chain : Stmt := inClass (top 23) 12
theorem sc_Reader_chain : FnScope ["self", "rank", "first", "rest", "sign"] ["self", "rank"] (defScope s_Reader_chain) := ⟨rfl, rfl, rfl, by decide +kernel, rfl, by decide +kernel, by decide +kernel⟩
abbrev s_Reader_operand : Stmt := inClass (top 23) 13
theorem sc_Reader_operand : FnScope ["self", "kind", "worth", "index", "found", "word", "parts"] ["self"] (defScope s_Reader_operand) := ⟨rfl, rfl, rfl, by decide +kernel, rfl, by decide +kernel, by decide +kernel⟩
abbrev s_Reader_arguments : Stmt := inClass (top 23) 14
theorem sc_Reader_arguments : FnScope ["self", "found"] ["self"] (defScope s_Reader_arguments) := ⟨rfl, rfl, rfl, by decide +kernel, rfl, by decide +kernel, by decide +kernel⟩
abbrev s_written_expression : Stmt := top 24
theorem sc_written_expression : FnScope ["expression", "rank", "worth", "word", "parts", "inside", "part", "own", "rows", "sign", "operand", "found"] ["expression", "rank"] (defScope s_written_expression) := ⟨rfl, rfl, rfl, by decide +kernel, rfl, by decide +kernel, by decide +kernel⟩
abbrev s_block_rows : Stmt := top 25
theorem sc_block_rows : FnScope ["block", "statement", "row"] ["block"] (defScope s_block_rows) := ⟨rfl, rfl, rfl, by decide +kernel, rfl, by decide +kernel, by decide +kernel⟩
abbrev s_braced_rows : Stmt := top 26
theorem sc_braced_rows : FnScope ["head", "block", "row"] ["head", "block"] (defScope s_braced_rows) := ⟨rfl, rfl, rfl, by decide +kernel, rfl, by decide +kernel, by decide +kernel⟩
abbrev s_with_other : Stmt := top 27
theorem sc_with_other : FnScope ["head", "block", "other"] ["head", "block", "other"] (defScope s_with_other) := ⟨rfl, rfl, rfl, by decide +kernel, rfl, by decide +kernel, by decide +kernel⟩
abbrev s_statement_rows : Stmt := top 28
theorem sc_statement_rows : FnScope ["statement", "word", "worth", "test", "block", "other"] ["statement"] (defScope s_statement_rows) := ⟨rfl, rfl, rfl, by decide +kernel, rfl, by decide +kernel, by decide +kernel⟩
abbrev s_calls_of : Stmt := top 29
theorem sc_calls_of : FnScope ["expression", "word", "parts", "part", "inner", "rank", "first", "rest", "sign", "operand"] ["expression"] (defScope s_calls_of) := ⟨rfl, rfl, rfl, by decide +kernel, rfl, by decide +kernel, by decide +kernel⟩
abbrev s_block_calls : Stmt := top 30
theorem sc_block_calls : FnScope ["block", "statement", "word"] ["block"] (defScope s_block_calls) := ⟨rfl, rfl, rfl, by decide +kernel, rfl, by decide +kernel, by decide +kernel⟩
abbrev s_statement_calls : Stmt := top 31
theorem sc_statement_calls : FnScope ["statement", "test", "block", "other", "word", "rows"] ["statement"] (defScope s_statement_calls) := ⟨rfl, rfl, rfl, by decide +kernel, rfl, by decide +kernel, by decide +kernel⟩
abbrev s_Script___init__ : Stmt := inClass (top 32) 0
theorem sc_Script___init__ : FnScope ["self", "statements"] ["self", "statements"] (defScope s_Script___init__) := ⟨rfl, rfl, rfl, by decide +kernel, rfl, by decide +kernel, by decide +kernel⟩
abbrev s_Script_read : Stmt := inClass (top 32) 1
theorem sc_Script_read : FnScope ["text", "reader", "found"] ["text"] (defScope s_Script_read) := ⟨rfl, rfl, rfl, by decide +kernel, rfl, by decide +kernel, by decide +kernel⟩
abbrev s_Script_call_words : Stmt := inClass (top 32) 2
theorem sc_Script_call_words : GScope ["self"] ["self"] (defScope s_Script_call_words) := ⟨rfl, rfl, rfl, by decide +kernel, rfl, by decide +kernel, by decide +kernel⟩
abbrev s_Script___contains__ : Stmt := inClass (top 32) 3
theorem sc_Script___contains__ : FnScope ["self", "word"] ["self", "word"] (defScope s_Script___contains__) := ⟨rfl, rfl, rfl, by decide +kernel, rfl, by decide +kernel, by decide +kernel⟩
abbrev s_Script___add__ : Stmt := inClass (top 32) 4
theorem sc_Script___add__ : FnScope ["self", "other"] ["self", "other"] (defScope s_Script___add__) := ⟨rfl, rfl, rfl, by decide +kernel, rfl, by decide +kernel, by decide +kernel⟩
abbrev s_Script___eq__ : Stmt := inClass (top 32) 5
theorem sc_Script___eq__ : FnScope ["self", "other"] ["self", "other"] (defScope s_Script___eq__) := ⟨rfl, rfl, rfl, by decide +kernel, rfl, by decide +kernel, by decide +kernel⟩
abbrev s_Script___len__ : Stmt := inClass (top 32) 6
theorem sc_Script___len__ : FnScope ["self"] ["self"] (defScope s_Script___len__) := ⟨rfl, rfl, rfl, by decide +kernel, rfl, by decide +kernel, by decide +kernel⟩
abbrev s_Script___str__ : Stmt := inClass (top 32) 7
theorem sc_Script___str__ : FnScope ["self"] ["self"] (defScope s_Script___str__) := ⟨rfl, rfl, rfl, by decide +kernel, rfl, by decide +kernel, by decide +kernel⟩
abbrev s__law_mixed : Stmt := top 34
theorem sc__law_mixed : FnScope ["number"] ["number"] (defScope s__law_mixed) := ⟨rfl, rfl, rfl, by decide +kernel, rfl, by decide +kernel, by decide +kernel⟩
abbrev s__law_draw : Stmt := top 35
theorem sc__law_draw : FnScope ["state", "many", "found", "cell"] ["state", "many"] (defScope s__law_draw) := ⟨rfl, rfl, rfl, by decide +kernel, rfl, by decide +kernel, by decide +kernel⟩
abbrev s__law_state : Stmt := top 36
theorem sc__law_state : FnScope ["script"] ["script"] (defScope s__law_state) := ⟨rfl, rfl, rfl, by decide +kernel, rfl, by decide +kernel, by decide +kernel⟩
abbrev s__law_word : Stmt := top 37
theorem sc__law_word : FnScope ["state", "letters", "word", "k"] ["state"] (defScope s__law_word) := ⟨rfl, rfl, rfl, by decide +kernel, rfl, by decide +kernel, by decide +kernel⟩
abbrev s__law_text : Stmt := top 38
theorem sc__law_text : FnScope ["state", "signs", "text", "k"] ["state"] (defScope s__law_text) := ⟨rfl, rfl, rfl, by decide +kernel, rfl, by decide +kernel, by decide +kernel⟩
abbrev s__law_operand : Stmt := top 39
theorem sc__law_operand : FnScope ["state", "kind"] ["state"] (defScope s__law_operand) := ⟨rfl, rfl, rfl, by decide +kernel, rfl, by decide +kernel, by decide +kernel⟩
abbrev s__law_space : Stmt := top 40
theorem sc__law_space : FnScope ["state", "least", "text", "k"] ["state", "least"] (defScope s__law_space) := ⟨rfl, rfl, rfl, by decide +kernel, rfl, by decide +kernel, by decide +kernel⟩
abbrev s_law : Stmt := top 41
theorem sc_law : FnScope ["script", "state", "operand", "call", "tokens", "head", "line", "name", "loose", "token", "found", "again", "empty", "words"] ["script"] (defScope s_law) := ⟨rfl, rfl, rfl, by decide +kernel, rfl, by decide +kernel, by decide +kernel⟩
/-- what the top has written -/
structure Txt (w : World) (K : PySem.W.Frag) (mg : Str → Option Value) : Prop where
  n_len : mg "len" = none
  n_int : mg "int" = none
  n_list : mg "list" = none
  n_str : mg "str" = none
  n_isinstance : mg "isinstance" = none
  n_tuple : mg "tuple" = none
  n_enumerate : mg "enumerate" = none
  n_range : mg "range" = none
  g_is_plain : mg "is_plain" = some (.ref (ga K "is_plain"))
  g_run_end : mg "run_end" = some (.ref (ga K "run_end"))
  g_number_token : mg "number_token" = some (.ref (ga K "number_token"))
  g_text_token : mg "text_token" = some (.ref (ga K "text_token"))
  g_token_at : mg "token_at" = some (.ref (ga K "token_at"))
  g_tokens_of : mg "tokens_of" = some (.ref (ga K "tokens_of"))
  g_written_expression : mg "written_expression" = some (.ref (ga K "written_expression"))
  g_block_rows : mg "block_rows" = some (.ref (ga K "block_rows"))
  g_braced_rows : mg "braced_rows" = some (.ref (ga K "braced_rows"))
  g_with_other : mg "with_other" = some (.ref (ga K "with_other"))
  g_statement_rows : mg "statement_rows" = some (.ref (ga K "statement_rows"))
  g_calls_of : mg "calls_of" = some (.ref (ga K "calls_of"))
  g_block_calls : mg "block_calls" = some (.ref (ga K "block_calls"))
  g_statement_calls : mg "statement_calls" = some (.ref (ga K "statement_calls"))
  g__law_mixed : mg "_law_mixed" = some (.ref (ga K "_law_mixed"))
  g__law_draw : mg "_law_draw" = some (.ref (ga K "_law_draw"))
  g__law_state : mg "_law_state" = some (.ref (ga K "_law_state"))
  g__law_word : mg "_law_word" = some (.ref (ga K "_law_word"))
  g__law_text : mg "_law_text" = some (.ref (ga K "_law_text"))
  g__law_operand : mg "_law_operand" = some (.ref (ga K "_law_operand"))
  g__law_space : mg "_law_space" = some (.ref (ga K "_law_space"))
  g_law : mg "law" = some (.ref (ga K "law"))
  g_Reader : mg "Reader" = some (.ref (ga K "Reader"))
  g_Script : mg "Script" = some (.ref (ga K "Script"))
  g_PAIRS : mg "PAIRS" = some (.ref (ga K "PAIRS"))
  g_KEYWORDS : mg "KEYWORDS" = some (.ref (ga K "KEYWORDS"))
  g_RANKS : mg "RANKS" = some (.ref (ga K "RANKS"))
  g_PARAMETERS : mg "PARAMETERS" = some (.ref (ga K "PARAMETERS"))
  c_MOST_SIGNS : ∃ t, mg "MOST_SIGNS" = some (.int 2000 t)
  c_MOST_DIGITS : ∃ t, mg "MOST_DIGITS" = some (.int 18 t)
  c_COMPARING : ∃ t, mg "COMPARING" = some (.int 2 t)
  c_MOST_NESTED : ∃ t, mg "MOST_NESTED" = some (.int 12 t)
  c_LETTERS : ∃ t, mg "LETTERS" = some (.str (S LET) t)
  c_DIGITS : ∃ t, mg "DIGITS" = some (.str (S DIG) t)
  c_SIGNS : ∃ t, mg "SIGNS" = some (.str (S SGN) t)
  c_BLANKS : ∃ t, mg "BLANKS" = some (.str (S BLK) t)
  t_PAIRS : ∀ H, SqT K H (ga K "PAIRS") [.str "==", .str "!=", .str "<="]
  t_KEYWORDS : ∀ H, SqT K H (ga K "KEYWORDS") [.str "if", .str "else", .str "while", .str "for", .str "in", .str "try", .str "tell", .str "and", .str "or"]
  t_RANKS : ∀ H, SqT K H (ga K "RANKS") [.ref (rk K 0), .ref (rk K 1), .ref (rk K 2), .ref (rk K 3), .ref (rk K 4)]
  k_Reader : Cls K (ga K "Reader")
  k_Script : Cls K (ga K "Script")
  na_Reader_tokens : NoAttr K (ga K "Reader") "tokens"
  na_Reader_at : NoAttr K (ga K "Reader") "at"
  na_Reader_nested : NoAttr K (ga K "Reader") "nested"
  na_Script_statements : NoAttr K (ga K "Script") "statements"
  m_Reader : Mk K (ga K "Reader") (ma K (ga K "Reader") "__init__")
  m_Script : Mk K (ga K "Script") (ma K (ga K "Script") "__init__")
  me_Reader___init__ : Meth K (ga K "Reader") "__init__" (ma K (ga K "Reader") "__init__")
  me_Reader_worth : Meth K (ga K "Reader") "worth" (ma K (ga K "Reader") "worth")
  me_Reader_fail : Meth K (ga K "Reader") "fail" (ma K (ga K "Reader") "fail")
  me_Reader_skip : Meth K (ga K "Reader") "skip" (ma K (ga K "Reader") "skip")
  me_Reader_need : Meth K (ga K "Reader") "need" (ma K (ga K "Reader") "need")
  me_Reader_enter : Meth K (ga K "Reader") "enter" (ma K (ga K "Reader") "enter")
  me_Reader_name : Meth K (ga K "Reader") "name" (ma K (ga K "Reader") "name")
  me_Reader_braced : Meth K (ga K "Reader") "braced" (ma K (ga K "Reader") "braced")
  me_Reader_statement : Meth K (ga K "Reader") "statement" (ma K (ga K "Reader") "statement")
  me_Reader_compound : Meth K (ga K "Reader") "compound" (ma K (ga K "Reader") "compound")
  me_Reader_other : Meth K (ga K "Reader") "other" (ma K (ga K "Reader") "other")
  me_Reader_operator : Meth K (ga K "Reader") "operator" (ma K (ga K "Reader") "operator")
  me_Reader_chain : Meth K (ga K "Reader") "chain" (ma K (ga K "Reader") "chain")
  me_Reader_operand : Meth K (ga K "Reader") "operand" (ma K (ga K "Reader") "operand")
  me_Reader_arguments : Meth K (ga K "Reader") "arguments" (ma K (ga K "Reader") "arguments")
  me_Script___init__ : Meth K (ga K "Script") "__init__" (ma K (ga K "Script") "__init__")
  me_Script_call_words : Meth K (ga K "Script") "call_words" (ma K (ga K "Script") "call_words")
  me_Script___contains__ : Meth K (ga K "Script") "__contains__" (ma K (ga K "Script") "__contains__")
  me_Script___add__ : Meth K (ga K "Script") "__add__" (ma K (ga K "Script") "__add__")
  me_Script___eq__ : Meth K (ga K "Script") "__eq__" (ma K (ga K "Script") "__eq__")
  me_Script___len__ : Meth K (ga K "Script") "__len__" (ma K (ga K "Script") "__len__")
  me_Script___str__ : Meth K (ga K "Script") "__str__" (ma K (ga K "Script") "__str__")
  sm_Script_read : SMet K (ga K "Script") (.type "type") "read" (Hk.smP K "Script" "read") (Hk.smA K "Script" "read")
  rd_Script : ClX.CRead K (ga K "Script") (.type "type")
  d_is_plain : ∃ fd, FunD K "is_plain" "is_plain" (defArgs s_is_plain) (defBody s_is_plain) (defScope s_is_plain) [] [] (ga K "is_plain") fd
  d_run_end : ∃ fd, FunD K "run_end" "run_end" (defArgs s_run_end) (defBody s_run_end) (defScope s_run_end) [] [] (ga K "run_end") fd
  d_number_token : ∃ fd, FunD K "number_token" "number_token" (defArgs s_number_token) (defBody s_number_token) (defScope s_number_token) [] [] (ga K "number_token") fd
  d_text_token : ∃ fd, FunD K "text_token" "text_token" (defArgs s_text_token) (defBody s_text_token) (defScope s_text_token) [] [] (ga K "text_token") fd
  d_token_at : ∃ fd, FunD K "token_at" "token_at" (defArgs s_token_at) (defBody s_token_at) (defScope s_token_at) [] [] (ga K "token_at") fd
  d_tokens_of : ∃ fd, FunD K "tokens_of" "tokens_of" (defArgs s_tokens_of) (defBody s_tokens_of) (defScope s_tokens_of) [] [] (ga K "tokens_of") fd
  d_Reader___init__ : ∃ fd, FunD K "__init__" "Reader.__init__" (defArgs s_Reader___init__) (defBody s_Reader___init__) (defScope s_Reader___init__) [] [] (ma K (ga K "Reader") "__init__") fd
  d_Reader_worth : ∃ fd, FunD K "worth" "Reader.worth" (defArgs s_Reader_worth) (defBody s_Reader_worth) (defScope s_Reader_worth) [] [] (ma K (ga K "Reader") "worth") fd
  d_Reader_fail : ∃ fd, FunD K "fail" "Reader.fail" (defArgs s_Reader_fail) (defBody s_Reader_fail) (defScope s_Reader_fail) [] [] (ma K (ga K "Reader") "fail") fd
  d_Reader_skip : ∃ fd, FunD K "skip" "Reader.skip" (defArgs s_Reader_skip) (defBody s_Reader_skip) (defScope s_Reader_skip) [] [] (ma K (ga K "Reader") "skip") fd
  d_Reader_need : ∃ fd, FunD K "need" "Reader.need" (defArgs s_Reader_need) (defBody s_Reader_need) (defScope s_Reader_need) [] [] (ma K (ga K "Reader") "need") fd
  d_Reader_enter : ∃ fd, FunD K "enter" "Reader.enter" (defArgs s_Reader_enter) (defBody s_Reader_enter) (defScope s_Reader_enter) [] [] (ma K (ga K "Reader") "enter") fd
  d_Reader_name : ∃ fd, FunD K "name" "Reader.name" (defArgs s_Reader_name) (defBody s_Reader_name) (defScope s_Reader_name) [] [] (ma K (ga K "Reader") "name") fd
  d_Reader_braced : ∃ fd, FunD K "braced" "Reader.braced" (defArgs s_Reader_braced) (defBody s_Reader_braced) (defScope s_Reader_braced) [] [] (ma K (ga K "Reader") "braced") fd
  d_Reader_statement : ∃ fd, FunD K "statement" "Reader.statement" (defArgs s_Reader_statement) (defBody s_Reader_statement) (defScope s_Reader_statement) [] [] (ma K (ga K "Reader") "statement") fd
  d_Reader_compound : ∃ fd, FunD K "compound" "Reader.compound" (defArgs s_Reader_compound) (defBody s_Reader_compound) (defScope s_Reader_compound) [] [] (ma K (ga K "Reader") "compound") fd
  d_Reader_other : ∃ fd, FunD K "other" "Reader.other" (defArgs s_Reader_other) (defBody s_Reader_other) (defScope s_Reader_other) [] [] (ma K (ga K "Reader") "other") fd
  d_Reader_operator : ∃ fd, FunD K "operator" "Reader.operator" (defArgs s_Reader_operator) (defBody s_Reader_operator) (defScope s_Reader_operator) [] [] (ma K (ga K "Reader") "operator") fd
  d_Reader_chain : ∃ fd, FunD K "chain" "Reader.chain" (defArgs s_Reader_chain) (defBody s_Reader_chain) (defScope s_Reader_chain) [] [] (ma K (ga K "Reader") "chain") fd
  d_Reader_operand : ∃ fd, FunD K "operand" "Reader.operand" (defArgs s_Reader_operand) (defBody s_Reader_operand) (defScope s_Reader_operand) [] [] (ma K (ga K "Reader") "operand") fd
  d_Reader_arguments : ∃ fd, FunD K "arguments" "Reader.arguments" (defArgs s_Reader_arguments) (defBody s_Reader_arguments) (defScope s_Reader_arguments) [] [] (ma K (ga K "Reader") "arguments") fd
  d_written_expression : ∃ fd, FunD K "written_expression" "written_expression" (defArgs s_written_expression) (defBody s_written_expression) (defScope s_written_expression) [.int 0] [] (ga K "written_expression") fd
  d_block_rows : ∃ fd, FunD K "block_rows" "block_rows" (defArgs s_block_rows) (defBody s_block_rows) (defScope s_block_rows) [] [] (ga K "block_rows") fd
  d_braced_rows : ∃ fd, FunD K "braced_rows" "braced_rows" (defArgs s_braced_rows) (defBody s_braced_rows) (defScope s_braced_rows) [] [] (ga K "braced_rows") fd
  d_with_other : ∃ fd, FunD K "with_other" "with_other" (defArgs s_with_other) (defBody s_with_other) (defScope s_with_other) [] [] (ga K "with_other") fd
  d_statement_rows : ∃ fd, FunD K "statement_rows" "statement_rows" (defArgs s_statement_rows) (defBody s_statement_rows) (defScope s_statement_rows) [] [] (ga K "statement_rows") fd
  d_calls_of : ∃ fd, FunD K "calls_of" "calls_of" (defArgs s_calls_of) (defBody s_calls_of) (defScope s_calls_of) [] [] (ga K "calls_of") fd
  d_block_calls : ∃ fd, FunD K "block_calls" "block_calls" (defArgs s_block_calls) (defBody s_block_calls) (defScope s_block_calls) [] [] (ga K "block_calls") fd
  d_statement_calls : ∃ fd, FunD K "statement_calls" "statement_calls" (defArgs s_statement_calls) (defBody s_statement_calls) (defScope s_statement_calls) [] [] (ga K "statement_calls") fd
  d_Script___init__ : ∃ fd, FunD K "__init__" "Script.__init__" (defArgs s_Script___init__) (defBody s_Script___init__) (defScope s_Script___init__) [.ref (dflAt ("Script", some "__init__") 0 K)] [] (ma K (ga K "Script") "__init__") fd
  d_Script_read : ∃ fd, FunD K "read" "Script.read" (defArgs s_Script_read) (defBody s_Script_read) (defScope s_Script_read) [] [] (Hk.smA K "Script" "read") fd
  d_Script_call_words : ∃ fd, FunD K "call_words" "Script.call_words" (defArgs s_Script_call_words) (defBody s_Script_call_words) (defScope s_Script_call_words) [] [] (ma K (ga K "Script") "call_words") fd
  d_Script___contains__ : ∃ fd, FunD K "__contains__" "Script.__contains__" (defArgs s_Script___contains__) (defBody s_Script___contains__) (defScope s_Script___contains__) [] [] (ma K (ga K "Script") "__contains__") fd
  d_Script___add__ : ∃ fd, FunD K "__add__" "Script.__add__" (defArgs s_Script___add__) (defBody s_Script___add__) (defScope s_Script___add__) [] [] (ma K (ga K "Script") "__add__") fd
  d_Script___eq__ : ∃ fd, FunD K "__eq__" "Script.__eq__" (defArgs s_Script___eq__) (defBody s_Script___eq__) (defScope s_Script___eq__) [] [] (ma K (ga K "Script") "__eq__") fd
  d_Script___len__ : ∃ fd, FunD K "__len__" "Script.__len__" (defArgs s_Script___len__) (defBody s_Script___len__) (defScope s_Script___len__) [] [] (ma K (ga K "Script") "__len__") fd
  d_Script___str__ : ∃ fd, FunD K "__str__" "Script.__str__" (defArgs s_Script___str__) (defBody s_Script___str__) (defScope s_Script___str__) [] [] (ma K (ga K "Script") "__str__") fd
  d__law_mixed : ∃ fd, FunD K "_law_mixed" "_law_mixed" (defArgs s__law_mixed) (defBody s__law_mixed) (defScope s__law_mixed) [] [] (ga K "_law_mixed") fd
  d__law_draw : ∃ fd, FunD K "_law_draw" "_law_draw" (defArgs s__law_draw) (defBody s__law_draw) (defScope s__law_draw) [] [] (ga K "_law_draw") fd
  d__law_state : ∃ fd, FunD K "_law_state" "_law_state" (defArgs s__law_state) (defBody s__law_state) (defScope s__law_state) [] [] (ga K "_law_state") fd
  d__law_word : ∃ fd, FunD K "_law_word" "_law_word" (defArgs s__law_word) (defBody s__law_word) (defScope s__law_word) [] [] (ga K "_law_word") fd
  d__law_text : ∃ fd, FunD K "_law_text" "_law_text" (defArgs s__law_text) (defBody s__law_text) (defScope s__law_text) [] [] (ga K "_law_text") fd
  d__law_operand : ∃ fd, FunD K "_law_operand" "_law_operand" (defArgs s__law_operand) (defBody s__law_operand) (defScope s__law_operand) [] [] (ga K "_law_operand") fd
  d__law_space : ∃ fd, FunD K "_law_space" "_law_space" (defArgs s__law_space) (defBody s__law_space) (defScope s__law_space) [] [] (ga K "_law_space") fd
  d_law : ∃ fd, FunD K "law" "law" (defArgs s_law) (defBody s_law) (defScope s_law) [] [] (ga K "law") fd
  kd_PARAMETERS : ∃ es n, KDict K w (ga K "PARAMETERS") es n
  ks_PARAMETERS : ∀ x ∈ PRM, ∃ u, PySem.W.nsIn K (ga K "PARAMETERS") x.1 = some (some u) ∧ RelV (.int x.2) u
  dfl_S : ∀ H, SqT K H (dflAt ("Script", some "__init__") 0 K) []
  ic_Script : C8.InsC K (ga K "Script")
  is_Script : PySem.W.kitOne K (.type "str") (.ref (ga K "Script")) = some false
  nf_Script : PySem.W.notFirst K (ga K "Script") (.ref (ga K "Script")) = true
  ns_Script : PySem.W.notFirst K (ga K "Script") (.type "str") = true
  rk_RANKS : ∀ i, i < 5 → ∀ H, SqT K H (rk K i) ((RKS.getD i []).map V.str)
section
variable {P : Program} {w : World} {K : PySem.W.Frag} {mg : Str → Option Value} {base : Heap}
def spRunEnd : Sp := fun vs H Q _ => ∃ (l sg : List Nat) (i : Nat), vs = [.str (S l), .int i, .str (S sg)] ∧ i ≤ l.length ∧ l.length ≤ 100000 ∧ Q (.int (runEnd l sg i)) H
theorem ok_run_end (T : Txt w K mg) : Cal P w K mg base 1 (ga K "run_end") ["text", "at", "signs"] [] spRunEnd := by
  obtain ⟨fd, F⟩ := T.d_run_end
  refine cal_of F sc_run_end (bi_plain F (F.bindsN fun _ _ _ _ _ _ us hl => match us, hl with | [_, _, _], _ => rfl)) (by rintro vs H Q E ⟨l, sg, i, rfl, _⟩; rfl) (fun cdv A outer s H vs Q E hr h => ?_)
  obtain ⟨l, sg, i, rfl, hi, hl, q⟩ := h
  refine ⟨_, (pss_cons (ps_while PassesOwn.never (pw_and (pt_cmpR op_lt (pv 1) (pe_callB call_len_str (by rfl) T.n_len PySem.boot_len (pa_cons (pv 0) pa_nil)) (nomark _)) (pw_and1 (pt_cmpR op_in_sign (pe_ix ix_str (pv 0) (pv 1) (fun _ _ => rfl)) (pv 2) (by rfl)))).pt
 (pss_one (ps_aug (i := 1) sc_run_end.nd rfl (Or.inl rfl) pe_int ip_add)))
 (pss_one (ps_ret (pv 1)))), ?_⟩
  refine ⟨fun m σ H' => H' = H ∧ ∃ j : Nat, σ = [some (.str (S l)), some (.int j), some (.str (S sg))] ∧ j ≤ l.length ∧ m = l.length - j ∧ runEnd l sg j = runEnd l sg i, ⟨l.length - i, rfl, i, rfl, hi, rfl, rfl⟩, ?_⟩
  rintro m σ H' ⟨rfl, j, rfl, hj, rfl, hrun⟩
  refine ⟨_, rfl, _, rfl, _, rfl, len63 hl, _, _, rfl, rfl, _, rfl, ?_⟩
  refine ite2 (fun c => ?_) (fun c => ?_)
  · have hlt : j < l.length := by
      have := of_decide_eq_true c
      rw [S_len] at this
      omega
    obtain ⟨ch, hch⟩ : ∃ ch, l[j]? = some ch := ⟨_, List.getElem?_eq_getElem hlt⟩
    refine ⟨_, rfl, _, rfl, _, _, _, rfl, rfl, len63 hl, atI_nat hch, _, rfl, _, _, rfl, rfl, _, rfl, ?_⟩
    refine ite2 (fun d => ?_) (fun d => ?_)
    · have hin : ch ∈ sg := of_decide_eq_true d
      refine ⟨_, fun _ _ z => z, ?_⟩
      exact ⟨_, rfl, _, _, rfl, rfl, l.length - (j + 1), by omega, rfl, j + 1, rfl, hlt, rfl, by rw [runEnd_step hch hin]; exact hrun⟩
    · refine ⟨_, rfl, ?_⟩
      have hn : ¬ ch ∈ sg := fun z => d (decide_eq_true z)
      rw [← hrun, runEnd_stop hch hn] at q
      exact q
  · refine ⟨_, rfl, ?_⟩
    have hge : l.length ≤ j := by
      have := of_decide_eq_false (Bool.eq_false_iff.mpr c)
      rw [S_len] at this
      omega
    rw [← hrun, runEnd_end hge] at q
    exact q

theorem not_lt_one {a b : Nat} (h : b ≤ a) : (!decide ([a] < [b])) = true := by
  rw [Bool.not_eq_true', decide_eq_false_iff_not]
  intro z
  cases z with
  | rel h2 => exact absurd h2 (Nat.not_lt.mpr h)
  | cons h2 => cases h2
/-- is_plain -/
def spPlain : Sp := fun vs H Q _ => ∃ c : Nat, vs = [.str (S [c])] ∧ 32 ≤ c ∧ c ≤ 126 ∧ Q (.bl true) H
theorem ok_is_plain (T : Txt w K mg) : Cal P w K mg base 1 (ga K "is_plain") ["sign"] [] spPlain := by
  obtain ⟨fd, F⟩ := T.d_is_plain
  refine cal_of F sc_is_plain (bi_plain F (F.bindsN fun _ _ _ _ _ _ us hl => match us, hl with | [_], _ => rfl)) (by rintro vs H Q E ⟨c, rfl, _⟩; rfl) (fun cdv A outer s H vs Q E hr h => ?_)
  obtain ⟨c, rfl, h1, h2, q⟩ := h
  refine ⟨_, (pss_one (ps_ret (pe_chain op_le_str op_le_str pe_str (pv 0) pe_str))), ?_⟩
  have e1 : (!decide ((S [c]).cps.toList < ((" " : Str)).cps.toList)) = true := by
    rw [show ((" " : Str)).cps.toList = [32] by decide +kernel]
    exact not_lt_one h1
  have e2 : (!decide ((("~" : Str)).cps.toList < (S [c]).cps.toList)) = true := by
    rw [show (("~" : Str)).cps.toList = [126] by decide +kernel]
    exact not_lt_one h2
  refine ⟨_, rfl, _, _, rfl, rfl, _, rfl, ?_⟩
  rw [e1]
  refine iteT ⟨_, _, rfl, rfl, ?_⟩
  rw [e2]
  exact q
/-- number_token -/
def spNumber (K : PySem.W.Frag) : Sp := fun vs H Q _ => ∃ (l : List Nat) (i n j : Nat), vs = [.str (S l), .int i] ∧ TokAt l i (.num n) j ∧ l.length ≤ 100000 ∧ Ret K H Q (.tuple [tokD (.num n) i, .int j])
theorem drop_le {l r : List Nat} {i : Nat} (h : l.drop i = r) (hr : r ≠ []) : i + r.length = l.length := by
  have e := congrArg List.length h
  rw [List.length_drop] at e
  have : r.length ≠ 0 := fun z => hr (List.eq_nil_of_length_eq_zero z)
  omega
theorem app_ne {a b : List Nat} (h : a ≠ []) : a ++ b ≠ [] := fun e => h (List.append_eq_nil_iff.mp e).1
theorem drop_get {l p r : List Nat} {i k c : Nat} (h : l.drop i = p ++ r) (hk : p[k]? = some c) : l[i + k]? = some c := by
  rw [← List.getElem?_drop, h, List.getElem?_append_left (List.getElem?_eq_some_iff.mp hk).1, hk]
theorem ok_number_token (T : Txt w K mg) : Cal P w K mg base 2 (ga K "number_token") ["text", "at"] [] (spNumber K) := by
  obtain ⟨fd, F⟩ := T.d_number_token
  have c_run_end := ok_run_end (P := P) (base := base) T
  refine cal_of F sc_number_token (bi_plain F (F.bindsN fun _ _ _ _ _ _ us hl => match us, hl with | [_, _], _ => rfl)) (by rintro vs H Q E ⟨l, i, n, j, rfl, _⟩; rfl) (fun cdv A outer s H vs Q E hr h => ?_)
  obtain ⟨l, i, n, j, rfl, ⟨⟨r, hd, he⟩, ho, hto⟩, hl, q⟩ := h
  have hr_run_end := hr
  refine ⟨_, (pss_cons (ps_set (i := 2) sc_number_token.nd rfl (Or.inl rfl) (pe_callC c_run_end hr_run_end T.g_run_end (pa_cons (pv 0) (pa_cons (pv 1) (pa_cons (pe_gS T.c_DIGITS) pa_nil)))))
 (pss_cons (ps_set (i := 3) sc_number_token.nd rfl (Or.inl rfl) (pe_slice sl_str (pv 0) (po_some (pv 1)) (po_some (pv 2))))
 (pss_cons (ps_if (pw_or (pt_cmpR op_gt (pe_callB call_len_str (by rfl) T.n_len PySem.boot_len (pa_cons (pv 3) pa_nil)) (pe_gI T.c_MOST_DIGITS) (nomark _)) (pw_or1 (pw_and (pt_cmpR op_gt (pe_callB call_len_str (by rfl) T.n_len PySem.boot_len (pa_cons (pv 3) pa_nil)) pe_int (nomark _)) (pw_and1 (pt_cmpR op_eq (pe_ix ix_str (pv 3) pe_int (fun _ _ => rfl)) pe_str (nomark _)))).pt)).pt
 (pss_one ps_never)
 pss_nil)
 (pss_one (ps_ret (pe_tup (pa_cons (pe_tup (pa_cons pe_str (pa_cons (pe_callTy call_int_str (by rfl) T.n_int (by decide +kernel) (pa_cons (pv 3) pa_nil)) (pa_cons (pv 1) pa_nil)))) (pa_cons (pv 2) pa_nil)))))))), ?_⟩
  have hne := numL_ne n
  have hlen : i + ((TL.numL n).length + r.length) = l.length := by
    have z := drop_le hd (app_ne hne)
    rw [List.length_append] at z
    exact z
  have hrun : runEnd l DIG i = j := by
    rw [runEnd_app hd (fun c hc => dig_iff.mpr (numL_digits n c hc)) he, hto]
  have hj : j ≤ l.length := by rw [hto]; show i + (TL.numL n).length ≤ _; omega
  have hcut : cutS (S l) (some (i : Int)) (some (j : Int)) = S (TL.numL n) := by
    rw [cut_S l (by omega) hj, hd, hto, Nat.add_sub_cancel_left]
    show S (List.take (TL.numL n).length (TL.numL n ++ r)) = _
    rw [List.take_left]
  have ho' : (TL.numL n).length ≤ 18 := ho
  refine ⟨_, rfl, _, rfl, l, DIG, i, rfl, by omega, hl, ?_⟩
  rw [hrun]
  refine ⟨_, rfl, _, rfl, _, rfl, _, rfl, _, rfl, _, rfl, len63 hl, ?_⟩
  rw [hcut]
  have hsl : (S (TL.numL n)).length ≤ sizeLine := len63 (by omega)
  refine ⟨_, rfl, _, rfl, hsl, _, _, rfl, rfl, _, rfl, ite2 (fun z => ?_) (fun _ => ?_)⟩
  · exfalso
    have z2 := of_decide_eq_true z
    rw [S_len] at z2
    omega
  refine ⟨_, rfl, _, rfl, hsl, _, _, rfl, rfl, _, rfl, ite2 (fun z => ?_) (fun _ => ?_)⟩
  · have z2 : 1 < (TL.numL n).length := by
      have z2 := of_decide_eq_true z
      rw [S_len] at z2
      omega
    obtain ⟨a, b, e⟩ := List.exists_cons_of_ne_nil hne
    refine ⟨_, rfl, _, 0, a, rfl, rfl, hsl, atI_nat (j := 0) (by rw [cps_S, e]; rfl), rfl, _, rfl, ?_⟩
    have na : ¬ V.str (S [a]) = V.str "0" := fun q => by
      have q2 : S [a] = ("0" : Str) := V.str.inj q
      have q3 : S [a] = S [48] := q2.trans (by decide +kernel)
      have q4 := S_inj q3
      have q5 := numL_one z2
      rw [e] at q5
      exact q5 (by rw [(List.cons.inj q4).1]; rfl)
    rw [decide_eq_false na]
    refine iteF ?_
    refine ⟨_, rfl, _, _, rfl, int_numL (by omega), (by rw [S_len]; omega), _, rfl, (by show 3 ≤ sizeLine; decide), fun t ht => ?_⟩
    refine ⟨_, rfl, (by show 2 ≤ sizeLine; decide), fun t2 ht2 => ?_⟩
    exact q _ _ ((same_upd ht _).trans (same_upd ht2 _)) (dp_new ht2 (.cons (dp_new ht (.cons (.str _) (.cons (.int _) (.cons (.int _) .nil)))) (.cons (.int _) .nil)))
  · refine iteF ?_
    refine ⟨_, rfl, _, _, rfl, int_numL (by omega), (by rw [S_len]; omega), _, rfl, (by show 3 ≤ sizeLine; decide), fun t ht => ?_⟩
    refine ⟨_, rfl, (by show 2 ≤ sizeLine; decide), fun t2 ht2 => ?_⟩
    exact q _ _ ((same_upd ht _).trans (same_upd ht2 _)) (dp_new ht2 (.cons (dp_new ht (.cons (.str _) (.cons (.int _) (.cons (.int _) .nil)))) (.cons (.int _) .nil)))
/-- text_token -/
def spText (K : PySem.W.Frag) : Sp := fun vs H Q _ => ∃ (l b : List Nat) (i j : Nat), vs = [.str (S l), .int i] ∧ TokAt l i (.txt b) j ∧ l.length ≤ 100000 ∧ Ret K H Q (.tuple [tokD (.txt b) i, .int j])
theorem quo : ("\"" : Str) = S [34] := by decide +kernel
theorem ok_text_token (T : Txt w K mg) : Cal P w K mg base 2 (ga K "text_token") ["text", "at"] [] (spText K) := by
  obtain ⟨fd, F⟩ := T.d_text_token
  have c_is_plain := ok_is_plain (P := P) (base := base) T
  refine cal_of F sc_text_token (bi_plain F (F.bindsN fun _ _ _ _ _ _ us hl => match us, hl with | [_, _], _ => rfl)) (by rintro vs H Q E ⟨l, b, i, j, rfl, _⟩; rfl) (fun cdv A outer s H vs Q E hr h => ?_)
  obtain ⟨l, b, i, j, rfl, ⟨⟨r, hd, he⟩, ho, hto⟩, hl, q⟩ := h
  have hr_is_plain := hr
  have hd0 : l.drop i = 34 :: (b ++ 34 :: r) := by
    rw [hd]
    show (34 :: (b ++ [34])) ++ r = _
    simp
  have hd1 : l.drop (i + 1) = b ++ 34 :: r := by
    rw [show l.drop (i + 1) = (l.drop i).drop 1 by rw [List.drop_drop], hd0]
    rfl
  have hlen := drop_le hd1 (by simp)
  rw [List.length_append, List.length_cons] at hlen
  have hb : ∀ c ∈ b, 32 ≤ c ∧ c ≤ 126 ∧ c ≠ 34 := ho
  have hj : j = i + 1 + b.length + 1 := by
    rw [hto]
    show i + (34 :: (b ++ [34])).length = _
    rw [List.length_cons, List.length_append, List.length_singleton]
    omega
  have hfind : Txt.find3 (S l) "\"" ((i : Int) + 1) = ((i + 1 + b.length : Nat) : Int) := by
    have e : ((i : Int) + 1) = ((i + 1 : Nat) : Int) := by omega
    rw [quo, e]
    exact find_sign hd1 (fun z => (hb 34 z).2.2 rfl) (by omega)
  have hcut : cutS (S l) (some ((i : Int) + 1)) (some ((i + 1 + b.length : Nat) : Int)) = S b := by
    have e : ((i : Int) + 1) = ((i + 1 : Nat) : Int) := by omega
    rw [e, cut_S l (by omega) (by omega), hd1, Nat.add_sub_cancel_left, List.take_left]
  refine ⟨_, (pss_cons (ps_set (i := 2) sc_text_token.nd rfl (Or.inl rfl) (pe_bm PySem.F.plainAttrs_str PySem.F.slot_str_find PySem.F.type_str_find mt_find3 (pv 0) (pa_cons pe_str (pa_cons (pe_op op_add (pv 1) pe_int) pa_nil))))
 (pss_cons (ps_if (pt_cmpR op_lt (pv 2) pe_int (nomark _))
 (pss_one ps_never)
 pss_nil)
 (pss_cons (ps_set (i := 3) sc_text_token.nd rfl (Or.inl rfl) (pe_slice sl_str (pv 0) (po_some (pe_op op_add (pv 1) pe_int)) (po_some (pv 2))))
 (pss_cons (ps_for PassesOwn.never rfl (pi_enumS rfl T.n_enumerate (pa_cons (pv 3) pa_nil)) (pg_tup rfl (pgs_cons (pg_name (i := 4) sc_text_token.nd rfl (Or.inl rfl)) (pgs_cons (pg_name (i := 5) sc_text_token.nd rfl (Or.inl rfl)) pgs_nil)))
 (pss_one (ps_if (pt_not (pt_val (pe_callC c_is_plain hr_is_plain T.g_is_plain (pa_cons (pv 5) pa_nil))))
 (pss_one ps_never)
 pss_nil)))
 (pss_one (ps_ret (pe_tup (pa_cons (pe_tup (pa_cons pe_str (pa_cons (pv 3) (pa_cons (pv 1) pa_nil)))) (pa_cons (pe_op op_add (pv 2) pe_int) pa_nil))))))))), ?_⟩
  refine ⟨_, rfl, rfl, _, rfl, _, _, rfl, rfl, _, _, _, rfl, rfl, ?_⟩
  rw [hfind]
  refine ⟨_, rfl, _, _, rfl, rfl, _, rfl, ite2 (fun z => ?_) (fun _ => ?_)⟩
  · exfalso
    have := of_decide_eq_true z
    omega
  refine ⟨_, rfl, _, rfl, _, _, rfl, rfl, _, rfl, _, rfl, _, rfl, _, rfl, len63 hl, ?_⟩
  rw [hcut]
  refine ⟨_, rfl, _, rfl, for_enumS (fun _ σ H' => Same H H' ∧ ∃ a c, σ = [some (.str (S l)), some (.int i), some (.int ((i + 1 + b.length : Nat) : Int)), some (.str (S b)), a, c]) ⟨Same.refl _, none, none, rfl⟩ ?_ ?_⟩
  · rintro k c t σ H' hc ht ⟨hs, a, d, rfl⟩
    have hcm : c ∈ b := by
      rw [at_S] at hc
      exact List.mem_of_getElem? hc
    refine ⟨t, _, rfl, SqT.of upd_same, rfl, _, _, rfl, _, _, rfl, rfl, ?_⟩
    refine ⟨_, rfl, c, rfl, (hb c hcm).1, (hb c hcm).2.1, _, rfl, iteF ?_⟩
    exact ⟨hs.trans (same_upd ht _), _, _, rfl⟩
  · rintro σ H' ⟨hs, a, c, rfl⟩
    refine ⟨_, rfl, _, rfl, (by show 3 ≤ sizeLine; decide), fun t ht => ?_⟩
    refine ⟨_, rfl, _, _, rfl, rfl, (by show 2 ≤ sizeLine; decide), fun t2 ht2 => ?_⟩
    refine q _ _ (hs.trans ((same_upd ht _).trans (same_upd ht2 _))) (dp_new ht2 (.cons (dp_new ht (.cons (.str _) (.cons (.str _) (.cons (.int _) .nil)))) (.cons ?_ .nil)))
    have e : (((i + 1 + b.length : Nat) : Int) + 1) = (j : Int) := by omega
    show Dp K _ (V.int (((i + 1 + b.length : Nat) : Int) + 1)) _
    rw [e]
    exact .int _
theorem in_strs (z : Str) : ∀ zs : List Str, inV (.str z) (zs.map V.str) = decide (z ∈ zs)
  | [] => rfl
  | y :: zs => by
    show ((y == z) || inV (.str z) (zs.map V.str)) = _
    rw [in_strs z zs]
    by_cases e : y = z
    · subst e
      simp
    · have e2 : ¬ z = y := fun q => e q.symm
      simp [e, e2]
theorem in_S (t : List Nat) (ws : List (List Nat)) : inV (.str (S t)) ((ws.map S).map V.str) = decide (t ∈ ws) := by
  rw [in_strs]
  by_cases h : t ∈ ws
  · rw [decide_eq_true h, decide_eq_true (List.mem_map.mpr ⟨t, h, rfl⟩)]
  · rw [decide_eq_false h, decide_eq_false]
    intro z
    obtain ⟨u, hu, e⟩ := List.mem_map.mp z
    rw [S_inj e] at hu
    exact h hu
/-- token_at -/
def spToken (K : PySem.W.Frag) : Sp := fun vs H Q _ => ∃ (l : List Nat) (t : Tk) (i j : Nat), vs = [.str (S l), .int i] ∧ TokAt l i t j ∧ l.length ≤ 100000 ∧ Ret K H Q (.tuple [tokD t i, .int j])
theorem Tk.ok_ne : ∀ {t : Tk}, t.ok → t.codes ≠ []
  | .num n, _ => numL_ne n
  | .txt _, _ => List.cons_ne_nil _ _
  | .word _, h => h.1
  | .sign l, h => by
    rcases h with h | ⟨c, e, _⟩
    · intro z
      have z2 : l = [] := z
      rw [z2] at h
      exact absurd h (by decide)
    · rw [show (Tk.sign l).codes = [c] from e]
      exact List.cons_ne_nil _ _
  | .eof, h => h.elim
theorem scal_str {a b : Str} : scal (V.str a) (V.str b) = true := rfl
theorem ok_token_at (T : Txt w K mg) : Cal P w K mg base 3 (ga K "token_at") ["text", "at"] [] (spToken K) := by
  obtain ⟨fd, F⟩ := T.d_token_at
  have c_run_end := ok_run_end (P := P) (base := base) T
  have c_number_token := ok_number_token (P := P) (base := base) T
  have c_text_token := ok_text_token (P := P) (base := base) T
  refine cal_of F sc_token_at (bi_plain F (F.bindsN fun _ _ _ _ _ _ us hl => match us, hl with | [_, _], _ => rfl)) (by rintro vs H Q E ⟨l, t, i, j, rfl, _⟩; rfl) (fun cdv A outer s H vs Q E hr h => ?_)
  obtain ⟨l, t, i, j, rfl, hT, hl, q⟩ := h
  have hr_number_token := hr
  have hr_text_token := hr
  have hr_run_end : Room 1 _ := hr.mono (by decide)
  obtain ⟨⟨r, hd, he⟩, ho, hto⟩ := id hT
  have hne := Tk.ok_ne ho
  have hlen := drop_le hd (app_ne hne)
  rw [List.length_append] at hlen
  obtain ⟨c0, cr, ec⟩ := List.exists_cons_of_ne_nil hne
  have hc0 : l[i]? = some c0 := by
    have z := drop_get (k := 0) (c := c0) hd (by rw [ec]; rfl)
    exact z
  have hlen1 : 0 < t.codes.length := by rw [ec]; exact Nat.succ_pos _
  have hil : i ≤ l.length := by omega
  have hjl : j ≤ l.length := by omega
  refine ⟨_, (pss_cons (ps_set (i := 2) sc_token_at.nd rfl (Or.inl rfl) (pe_ix ix_str (pv 0) (pv 1) (fun _ _ => rfl)))
 (pss_cons (ps_if (pt_cmpR op_in_sign (pv 2) (pe_gS T.c_DIGITS) (by rfl))
 (pss_one (ps_ret (pe_callC c_number_token hr_number_token T.g_number_token (pa_cons (pv 0) (pa_cons (pv 1) pa_nil)))))
 pss_nil)
 (pss_cons (ps_if (pt_cmpR op_eq (pv 2) pe_str (nomark _))
 (pss_one (ps_ret (pe_callC c_text_token hr_text_token T.g_text_token (pa_cons (pv 0) (pa_cons (pv 1) pa_nil)))))
 pss_nil)
 (pss_cons (ps_if (pt_cmpR op_in_sign (pv 2) (pe_gS T.c_LETTERS) (by rfl))
 (pss_cons (ps_set (i := 3) sc_token_at.nd rfl (Or.inl rfl) (pe_callC c_run_end hr_run_end T.g_run_end (pa_cons (pv 0) (pa_cons (pv 1) (pa_cons (pe_op op_add_str (pe_op op_add_str (pe_gS T.c_LETTERS) (pe_gS T.c_DIGITS)) pe_str) pa_nil)))))
 (pss_one (ps_ret (pe_tup (pa_cons (pe_tup (pa_cons pe_str (pa_cons (pe_slice sl_str (pv 0) (po_some (pv 1)) (po_some (pv 3))) (pa_cons (pv 1) pa_nil)))) (pa_cons (pv 3) pa_nil))))))
 pss_nil)
 (pss_cons (ps_if (pt_cmpR op_in_seq (pe_slice sl_str (pv 0) (po_some (pv 1)) (po_some (pe_op op_add (pv 1) pe_int))) (pe_gR T.g_PAIRS) (by rfl))
 (pss_one (ps_ret (pe_tup (pa_cons (pe_tup (pa_cons pe_str (pa_cons (pe_slice sl_str (pv 0) (po_some (pv 1)) (po_some (pe_op op_add (pv 1) pe_int))) (pa_cons (pv 1) pa_nil)))) (pa_cons (pe_op op_add (pv 1) pe_int) pa_nil)))))
 pss_nil)
 (pss_cons (ps_if (pt_cmpR op_in_sign (pv 2) (pe_gS T.c_SIGNS) (by rfl))
 (pss_one (ps_ret (pe_tup (pa_cons (pe_tup (pa_cons pe_str (pa_cons (pv 2) (pa_cons (pv 1) pa_nil)))) (pa_cons (pe_op op_add (pv 1) pe_int) pa_nil)))))
 pss_nil)
 (pss_one ps_never))))))), ?_⟩
  refine ⟨_, rfl, _, rfl, _, _, _, rfl, rfl, len63 hl, atI_nat hc0, ?_⟩
  refine ⟨_, rfl, _, _, rfl, rfl, _, rfl, ite2 (fun z => ?_) (fun z => ?_)⟩
  · -- a number
    have z1 : c0 ∈ DIG := of_decide_eq_true z
    have z2 := dig_iff.mp z1
    cases t with
    | num n => exact ⟨_, rfl, _, rfl, l, i, n, j, rfl, hT, hl, q⟩
    | txt b => exact absurd (List.cons.inj ec).1 (by omega)
    | word w =>
      have h2 := ho.2.1 c0 (by rw [show w = c0 :: cr from ec]; rfl)
      have h3 := let_iff.mp h2
      omega
    | sign w =>
      exfalso
      have ew : w = c0 :: cr := ec
      rcases ho with h | ⟨c, e, h⟩
      · rw [ew] at h
        simp only [PRS, List.mem_cons, List.cons.injEq, List.not_mem_nil, or_false] at h
        omega
      · rw [ew] at e
        have e1 := (List.cons.inj e).1
        rw [← e1] at h
        simp only [SGN, List.mem_cons, List.not_mem_nil, or_false] at h
        omega
    | eof => exact ho.elim
  have nd : ¬ c0 ∈ DIG := fun y => z (decide_eq_true y)
  refine ⟨_, rfl, scal_str, _, rfl, ite2 (fun y => ?_) (fun y => ?_)⟩
  · -- a text
    have y1 : V.str (S [c0]) = V.str ("\"" : Str) := of_decide_eq_true y
    rw [quo] at y1
    have y2 : c0 = 34 := (List.cons.inj (S_inj (V.str.inj y1))).1
    cases t with
    | num n =>
      exact absurd (dig_iff.mpr (numL_digits n c0 (by rw [show TL.numL n = c0 :: cr from ec]; exact List.mem_cons_self))) nd
    | txt b => exact ⟨_, rfl, _, rfl, l, b, i, j, rfl, hT, hl, q⟩
    | word w =>
      have h2 := ho.2.1 c0 (by rw [show w = c0 :: cr from ec]; rfl)
      have h3 := let_iff.mp h2
      omega
    | sign w =>
      exfalso
      have ew : w = c0 :: cr := ec
      rcases ho with h | ⟨c, e, h⟩
      · rw [ew] at h
        simp only [PRS, List.mem_cons, List.cons.injEq, List.not_mem_nil, or_false] at h
        omega
      · rw [ew] at e
        have e1 := (List.cons.inj e).1
        rw [← e1] at h
        simp only [SGN, List.mem_cons, List.not_mem_nil, or_false] at h
        omega
    | eof => exact ho.elim
  have nq : c0 ≠ 34 := fun e => y (by rw [quo, e]; exact decide_eq_true rfl)
  refine ⟨_, rfl, _, _, rfl, rfl, _, rfl, ite2 (fun x => ?_) (fun x => ?_)⟩
  · -- a word
    have x1 : c0 ∈ LET := of_decide_eq_true x
    have x2 := let_iff.mp x1
    have eW : S LET ++ S DIG ++ ("_" : Str) = S WCH := by decide +kernel
    cases t with
    | num n =>
      exact absurd (dig_iff.mpr (numL_digits n c0 (by rw [show TL.numL n = c0 :: cr from ec]; exact List.mem_cons_self))) nd
    | txt b => exact absurd (List.cons.inj ec).1.symm nq
    | word w =>
      have hrun : runEnd l WCH i = j := by
        rw [runEnd_app hd ho.2.2 he, hto]
      have hcut : cutS (S l) (some (i : Int)) (some (j : Int)) = S w := by
        rw [cut_S l hil hjl, hd, hto, Nat.add_sub_cancel_left, List.take_left]
        rfl
      refine ⟨_, rfl, _, rfl, _, _, rfl, rfl, (by decide +kernel), _, _, rfl, rfl, (by decide +kernel), ?_⟩
      rw [eW]
      refine ⟨l, WCH, i, rfl, hil, hl, ?_⟩
      rw [hrun]
      refine ⟨_, rfl, _, rfl, _, rfl, _, rfl, _, rfl, _, rfl, len63 hl, ?_⟩
      rw [hcut]
      refine ⟨_, rfl, (by show 3 ≤ sizeLine; decide), fun p hp => ?_⟩
      refine ⟨_, rfl, (by show 2 ≤ sizeLine; decide), fun p2 hp2 => ?_⟩
      exact q _ _ ((same_upd hp _).trans (same_upd hp2 _)) (dp_new hp2 (.cons (dp_new hp (.cons (.str _) (.cons (.str _) (.cons (.int _) .nil)))) (.cons (.int _) .nil)))
    | sign w =>
      exfalso
      have ew : w = c0 :: cr := ec
      rcases ho with h | ⟨c, e, h⟩
      · rw [ew] at h
        simp only [PRS, List.mem_cons, List.cons.injEq, List.not_mem_nil, or_false] at h
        omega
      · rw [ew] at e
        have e1 := (List.cons.inj e).1
        rw [← e1] at h
        simp only [SGN, List.mem_cons, List.not_mem_nil, or_false] at h
        omega
    | eof => exact ho.elim
  have nl : ¬ c0 ∈ LET := fun y => x (decide_eq_true y)
  cases t with
  | num n =>
    exact absurd (dig_iff.mpr (numL_digits n c0 (by rw [show TL.numL n = c0 :: cr from ec]; exact List.mem_cons_self))) nd
  | txt b => exact absurd (List.cons.inj ec).1.symm nq
  | word w => exact absurd (ho.2.1 c0 (by rw [show w = c0 :: cr from ec]; rfl)) nl
  | eof => exact ho.elim
  | sign w =>
    have ew : w = c0 :: cr := ec
    have hd2 : l.drop i = w ++ r := hd
    have hcut2 : cutS (S l) (some (i : Int)) (some ((i : Int) + 2)) = S ((w ++ r).take 2) := by rw [cut2_S l hil, hd2]
    have hp : inV (.str (S ((w ++ r).take 2))) [.str "==", .str "!=", .str "<="] = decide ((w ++ r).take 2 ∈ PRS) := by
      rw [← in_S, show (PRS.map S).map V.str = [.str "==", .str "!=", .str "<="] by decide +kernel]
    refine ⟨_, rfl, _, rfl, _, rfl, _, rfl, _, _, rfl, rfl, _, rfl, _, rfl, len63 hl, ?_⟩
    rw [hcut2]
    refine ⟨_, _, rfl, .inr (T.t_PAIRS _), rfl, rfl, _, rfl, ?_⟩
    show if inV (.str (S ((w ++ r).take 2))) [.str "==", .str "!=", .str "<="] = true then _ else _
    rw [hp]
    rcases ho with h | ⟨c, e, h⟩
    · have hw2 : w.length = 2 := by
        simp only [PRS, List.mem_cons, List.not_mem_nil, or_false] at h
        rcases h with h | h | h <;> · rw [h]; rfl
      have htk : (w ++ r).take 2 = w := by rw [← hw2, List.take_left]
      rw [htk, decide_eq_true h]
      refine iteT ?_
      refine ⟨_, rfl, _, rfl, _, rfl, _, rfl, _, _, rfl, rfl, _, rfl, _, rfl, len63 hl, ?_⟩
      rw [hcut2, htk]
      refine ⟨_, rfl, (by show 3 ≤ sizeLine; decide), fun p hp => ?_⟩
      refine ⟨_, rfl, _, _, rfl, rfl, (by show 2 ≤ sizeLine; decide), fun p2 hp2 => ?_⟩
      have ej : ((i : Int) + 2) = (j : Int) := by
        rw [hto]
        show _ = ((i + w.length : Nat) : Int)
        omega
      refine q _ _ ((same_upd hp _).trans (same_upd hp2 _)) (dp_new hp2 (.cons (dp_new hp (.cons (.str _) (.cons (.str _) (.cons (.int _) .nil)))) (.cons ?_ .nil)))
      show Dp K _ (V.int ((i : Int) + 2)) _
      rw [ej]
      exact .int _
    · subst e
      have ecc : c = c0 := (List.cons.inj ew).1
      subst ecc
      have hnp : ¬ (([c] ++ r).take 2 ∈ PRS) := by
        have z := he rfl
        rwa [show ([c] ++ r).take 2 = [c] ++ r.take 1 by simp]
      rw [decide_eq_false hnp]
      refine iteF ?_
      refine ⟨_, rfl, _, _, rfl, rfl, _, rfl, ?_⟩
      have hs : decide (c ∈ (S SGN).cps.toList) = true := decide_eq_true h
      rw [hs]
      refine iteT ?_
      refine ⟨_, rfl, _, rfl, (by show 3 ≤ sizeLine; decide), fun p hp => ?_⟩
      refine ⟨_, rfl, _, _, rfl, rfl, (by show 2 ≤ sizeLine; decide), fun p2 hp2 => ?_⟩
      have ej : ((i : Int) + 1) = (j : Int) := by
        rw [hto]
        show _ = ((i + 1 : Nat) : Int)
        omega
      refine q _ _ ((same_upd hp _).trans (same_upd hp2 _)) (dp_new hp2 (.cons (dp_new hp (.cons (.str _) (.cons (.str _) (.cons (.int _) .nil)))) (.cons ?_ .nil)))
      show Dp K _ (V.int ((i : Int) + 1)) _
      rw [ej]
      exact .int _
/-- tokens_of -/
inductive Lexed (l : List Nat) : Nat → List (Tk × Nat) → Prop
  | fin : Lexed l l.length []
  | tok {i j : Nat} {t : Tk} {ts : List (Tk × Nat)} : TokAt l i t j → Lexed l (runEnd l BLK j) ts → Lexed l i ((t, i) :: ts)
theorem Lexed.le {l : List Nat} : ∀ {i : Nat} {ts : List (Tk × Nat)}, Lexed l i ts → i + ts.length ≤ l.length
  | _, _, .fin => Nat.le_refl _
  | i, _, .tok (j := j) h r => by
    obtain ⟨⟨r', hd, _⟩, ho, hto⟩ := h
    have hne := Tk.ok_ne ho
    have h1 := drop_le hd (app_ne hne)
    rw [List.length_append] at h1
    have h2 := List.length_pos_iff.mpr hne
    have h3 := r.le
    have h4 := (runEnd_le l BLK (i := j) (by omega)).1
    show i + (_ + 1) ≤ _
    omega
def toksD (l : List Nat) (ts : List (Tk × Nat)) : List PyData := ts.map (fun t => tokD t.1 t.2) ++ [tokD .eof l.length]
def spTokens (K : PySem.W.Frag) : SpG := fun vs H Q _ => ∃ (l : List Nat) (ts : List (Tk × Nat)), vs = [.str (S l)] ∧ l.length ≤ 2000 ∧ Lexed l (runEnd l BLK 0) ts ∧ ∀ out H', Same H H' → DpAll K H' out (toksD l ts) → Q out H'
theorem dpa_snoc {K : PySem.W.Frag} {H : Hp} : ∀ {vs : List V} {ds : List PyData} {v : V} {d : PyData}, DpAll K H vs ds → Dp K H v d → DpAll K H (vs ++ [v]) (ds ++ [d])
  | _, _, _, _, .nil, h => .cons h .nil
  | _, _, _, _, .cons a t, h => .cons a (dpa_snoc t h)
theorem ok_tokens_of (T : Txt w K mg) : GCal P w K mg base 4 (ga K "tokens_of") ["text"] [] (spTokens K) := by
  obtain ⟨fd, F⟩ := T.d_tokens_of
  have c_run_end := ok_run_end (P := P) (base := base) T
  have c_token_at := ok_token_at (P := P) (base := base) T
  refine gcal_of F sc_tokens_of (bi_plain F (F.bindsN fun _ _ _ _ _ _ us hl => match us, hl with | [_], _ => rfl)) (by rintro vs H Q E ⟨l, ts, rfl, _⟩; rfl) (fun cdv A outer s H vs Q E pn hr h => ?_)
  obtain ⟨l, ts, rfl, hl, hL, q⟩ := h
  have hr_token_at := hr
  have hr_run_end : Room 1 _ := hr.mono (by decide)
  have hl5 : l.length ≤ 100000 := by omega
  refine ⟨_, (gss_cons (gs_ps (ps_if (pt_cmpR op_gt (pe_callB call_len_str (by rfl) T.n_len PySem.boot_len (pa_cons (pv 0) pa_nil)) (pe_gI T.c_MOST_SIGNS) (nomark _))
 (pss_one ps_never)
 pss_nil))
 (gss_cons (gs_ps (ps_set (i := 1) sc_tokens_of.nd rfl (Or.inl rfl) (pe_callC c_run_end hr_run_end T.g_run_end (pa_cons (pv 0) (pa_cons pe_int (pa_cons (pe_gS T.c_BLANKS) pa_nil))))))
 (gss_cons (gs_while owns_gcx (pt_cmpR op_lt (pv 1) (pe_callB call_len_str (by rfl) T.n_len PySem.boot_len (pa_cons (pv 0) pa_nil)) (nomark _))
 (gss_cons (gs_ps (ps_asg (pe_callC c_token_at hr_token_at T.g_token_at (pa_cons (pv 0) (pa_cons (pv 1) pa_nil))) (pg_tup rfl (pgs_cons (pg_name (i := 2) sc_tokens_of.nd rfl (Or.inl rfl)) (pgs_cons (pg_name (i := 3) sc_tokens_of.nd rfl (Or.inl rfl)) pgs_nil)))))
 (gss_cons (gs_yield (pv 2))
 (gss_cons (gs_ps (ps_set (i := 1) sc_tokens_of.nd rfl (Or.inl rfl) (pe_callC c_run_end hr_run_end T.g_run_end (pa_cons (pv 0) (pa_cons (pv 3) (pa_cons (pe_gS T.c_BLANKS) pa_nil))))))
 gss_nil))))
 (gss_cons (gs_yield (pe_tup (pa_cons pe_str (pa_cons pe_str (pa_cons (pe_callB call_len_str (by rfl) T.n_len PySem.boot_len (pa_cons (pv 0) pa_nil)) pa_nil)))))
 gss_nil)))), ?_⟩
  refine ⟨_, rfl, _, rfl, len63 hl5, _, _, rfl, rfl, _, rfl, ite2 (fun z => ?_) (fun _ => ?_)⟩
  · exfalso
    have z2 := of_decide_eq_true z
    rw [S_len] at z2
    omega
  refine ⟨_, rfl, l, BLK, 0, rfl, Nat.zero_le _, hl5, ?_⟩
  refine ⟨fun m ys σ H' => ∃ (i : Nat) (rs : List (Tk × Nat)) (ds : List PyData) (a b : Option V), σ = [some (.str (S l)), some (.int i), a, b] ∧ Same H H' ∧ Lexed l i rs ∧ ds ++ toksD l rs = toksD l ts ∧ DpAll K H' ys ds ∧ m = rs.length ∧ ys.length + rs.length ≤ l.length, ⟨ts.length, _, ts, [], none, none, rfl, Same.refl _, hL, rfl, .nil, rfl, by have := hL.le; simp; omega⟩, ?_⟩
  rintro m ys σ H' ⟨i, rs, ds, a, b, rfl, hs, hrs, hds, hys, rfl, hle⟩
  have hil := hrs.le
  refine ⟨_, rfl, _, rfl, _, rfl, len63 hl5, _, _, rfl, rfl, _, rfl, ?_⟩
  cases hrs with
  | fin =>
    refine ite2 (fun z => ?_) (fun _ => ?_)
    · exfalso
      have z2 := of_decide_eq_true z
      rw [S_len] at z2
      omega
    refine ⟨by rw [sizeLine_eq]; simp at hle; omega, _, rfl, _, rfl, len63 hl5, (by show 3 ≤ sizeLine; decide), fun p hp => ?_⟩
    refine q _ _ (hs.trans (same_upd hp _)) ?_
    rw [← hds]
    refine dpa_snoc (dpa_same (same_upd hp _) hys) (dp_new hp (.cons (.str _) (.cons (.str _) (.cons ?_ .nil))))
    rw [S_len]
    exact .int _
  | tok hT hr2 =>
    rename_i j t ts2
    obtain ⟨⟨r', hd, _⟩, ho, hto⟩ := id hT
    have hne := Tk.ok_ne ho
    have h1 := drop_le hd (app_ne hne)
    rw [List.length_append] at h1
    have h2 := List.length_pos_iff.mpr hne
    refine ite2 (fun _ => ?_) (fun z => ?_)
    · refine ⟨_, fun _ _ _ z => z, ?_⟩
      refine ⟨_, rfl, _, rfl, l, t, i, j, rfl, hT, hl5, fun v H2 hs2 hv => ?_⟩
      obtain ⟨p, ws, rfl, hp, hw⟩ := dp_tup hv
      cases hw with
      | cons hw1 hw2 =>
      cases hw2 with
      | cons hw2 hw3 =>
      cases hw3
      cases dp_int hw2
      refine ⟨p, _, rfl, hp, rfl, _, _, rfl, _, _, rfl, rfl, ?_⟩
      refine ⟨by rw [sizeLine_eq]; simp at hle; omega, _, rfl, ?_⟩
      refine ⟨_, rfl, _, rfl, l, BLK, j, rfl, by omega, hl5, ?_⟩
      refine ⟨ts2.length, Nat.lt_succ_self _, _, ts2, ds ++ [tokD t i], _, _, rfl, hs.trans hs2, hr2, ?_, ?_, rfl, ?_⟩
      · rw [← hds]
        simp [toksD]
      · exact dpa_snoc (dpa_same hs2 hys) hw1
      · simp at hle ⊢
        omega
    · exfalso
      refine z (decide_eq_true ?_)
      rw [S_len]
      omega
end
end Lx

set_option maxHeartbeats 4000000
namespace Lx
open PySem PySem.Spec PyProof.Rows L2 He SX Tx
/-! ### tokens as they are read -/
abbrev TL1 : Type := List (Tk × Nat)
def Tk.wv : Tk → V
  | .num n => .int n | .txt l => .str (S l) | .word l => .str (S l) | .sign l => .str (S l) | .eof => .str ""
theorem Tk.dp_wv {K : PySem.W.Frag} {H : Hp} (t : Tk) : Dp K H t.wv t.worth := by
  cases t with
  | num n => exact .int _
  | _ => exact .str _
theorem Tk.wv_of {K : PySem.W.Frag} {H : Hp} {t : Tk} {v : V} (h : Dp K H v t.worth) : v = t.wv := by
  cases t with
  | num n => exact dp_int h
  | _ => exact dp_str h
theorem tok_view {K : PySem.W.Frag} {H : Hp} {t : Tk} {ix : Nat} {v : V} (h : Dp K H v (tokD t ix)) : ∃ a, v = .ref a ∧ SqT K H a [.str t.kind, t.wv, .int ix] := by
  obtain ⟨a, vs, e, hs, hd⟩ := dp_tup h
  cases hd with
  | cons h1 hd =>
  cases hd with
  | cons h2 hd =>
  cases hd with
  | cons h3 hd =>
  cases hd
  cases dp_str h1
  cases dp_int h3
  rw [Tk.wv_of h2] at hs
  exact ⟨a, e, hs⟩
/-! ### the reader as an object -/
def rf (l : Addr) (i n : Int) : List (Str × V) := [("tokens", .ref l), ("at", .int i), ("nested", .int n)]
theorem s_ta : ¬ (("tokens" : Str) = "at") := by decide +kernel
theorem s_tn : ¬ (("tokens" : Str) = "nested") := by decide +kernel
theorem s_an : ¬ (("at" : Str) = "nested") := by decide +kernel
theorem lk_hit {f : Str} {v : V} {r : List (Str × V)} : List.lookup f ((f, v) :: r) = some v := by
  show (match f == f with | true => some v | false => _) = _
  rw [beq_self_eq_true]
theorem lk_miss {f g : Str} {v : V} {r : List (Str × V)} (h : ¬ g = f) : List.lookup f ((g, v) :: r) = List.lookup f r := by
  show (match f == g with | true => some v | false => List.lookup f r) = _
  rw [beq_eq_false_iff_ne.mpr (fun e => h e.symm)]
theorem rf_tokens (l : Addr) (i n : Int) : (rf l i n).lookup ("tokens" : Str) = some (.ref l) := lk_hit
theorem rf_at (l : Addr) (i n : Int) : (rf l i n).lookup ("at" : Str) = some (.int i) := (lk_miss s_ta).trans lk_hit
theorem rf_nested (l : Addr) (i n : Int) : (rf l i n).lookup ("nested" : Str) = some (.int n) := (lk_miss s_tn).trans ((lk_miss s_an).trans lk_hit)
theorem pf_hit {f : Str} {v x : V} {r : List (Str × V)} : putF f v ((f, x) :: r) = (f, v) :: r := if_pos rfl
theorem pf_miss {f g : Str} {v x : V} {r : List (Str × V)} (h : ¬ g = f) : putF f v ((g, x) :: r) = (g, x) :: putF f v r := if_neg h
theorem rf_put_at (l : Addr) (i j n : Int) : putF "at" (.int j) (rf l i n) = rf l j n := by
  unfold rf
  rw [pf_miss s_ta, pf_hit]
theorem rf_put_nested (l : Addr) (i n m : Int) : putF "nested" (.int m) (rf l i n) = rf l i m := by
  unfold rf
  rw [pf_miss s_tn, pf_miss s_an, pf_hit]
theorem rf_no {m : Str} (l : Addr) (i n : Int) (h1 : ¬ ("tokens" : Str) = m) (h2 : ¬ ("at" : Str) = m) (h3 : ¬ ("nested" : Str) = m) : (rf l i n).lookup m = none := by
  unfold rf
  rw [lk_miss h1, lk_miss h2, lk_miss h3]
  rfl
abbrev RC (K : PySem.W.Frag) : Addr := ga K "Reader"
/-- a reader of the tokens ts at p that stands at i, n deep -/
def Rdr (K : PySem.W.Frag) (H : Hp) (p l : Addr) (ts : TL1) (i n : Nat) : Prop := ∃ dx vs, H p = some (.ins (RC K) dx (rf l i n)) ∧ H l = some (.lst vs) ∧ DpAll K H vs (ts.map fun t => tokD t.1 t.2)
theorem Rdr.noSeq {K : PySem.W.Frag} {H : Hp} {p l : Addr} {ts : TL1} {i n : Nat} (R : Rdr K H p l ts i n) : NoSeq (H p) := by
  obtain ⟨dx, vs, hp, _⟩ := R
  rw [hp]
  trivial
theorem Rdr.put {K : PySem.W.Frag} {H : Hp} {p dx l : Addr} {vs : List V} {ts : TL1} {i n : Nat} (i' n' : Nat) (hp : H p = some (.ins (RC K) dx (rf l i n))) (hl : H l = some (.lst vs)) (hd : DpAll K H vs (ts.map fun t => tokD t.1 t.2)) :
    Rdr K (upd H p (.ins (RC K) dx (rf l i' n'))) p l ts i' n' := by
  have ns : NoSeq (H p) := by rw [hp]; trivial
  have lp : l ≠ p := fun e => by rw [e, hp] at hl; cases hl
  exact ⟨dx, vs, upd_same, by rw [upd_ne lp]; exact hl, dpa_but ns (but_upd _) hd⟩
/-- what is allocated besides leaves it -/
theorem Rdr.same {K : PySem.W.Frag} {H H' : Hp} {p l : Addr} {ts : TL1} {i n : Nat} (R : Rdr K H p l ts i n) (e : Same H H') : Rdr K H' p l ts i n := by
  obtain ⟨dx, vs, hp, hl, hd⟩ := R
  exact ⟨dx, vs, e _ _ hp, e _ _ hl, dpa_same e hd⟩
theorem tget {K : PySem.W.Frag} {H : Hp} {vs : List V} {ts : TL1} {i : Nat} {t : Tk} {ix : Nat} (hd : DpAll K H vs (ts.map fun t => tokD t.1 t.2)) (h : ts[i]? = some (t, ix)) : ∃ a, vs[i]? = some (.ref a) ∧ SqT K H a [.str t.kind, t.wv, .int ix] := by
  obtain ⟨v, hv, dv⟩ := dpa_get (i := i) (d := tokD t ix) hd (by rw [List.getElem?_map, h]; rfl)
  obtain ⟨a, e, hs⟩ := tok_view dv
  rw [e] at hv
  exact ⟨a, hv, hs⟩
theorem t0 {K : PySem.W.Frag} {H : Hp} {a : Addr} {t : Tk} {ix : Nat} (h : SqT K H a [.str t.kind, t.wv, .int ix]) : atI [V.str t.kind, t.wv, V.int ix] 0 = some (.str t.kind) := atI_nat (j := 0) rfl
theorem dec_str (a b : Str) : decide (V.str a = V.str b) = decide (a = b) := by
  by_cases h : a = b
  · rw [decide_eq_true h, decide_eq_true (congrArg V.str h)]
  · rw [decide_eq_false h, decide_eq_false (fun e => h (V.str.inj e))]
section
variable {P : Program} {w : World} {K : PySem.W.Frag} {mg : Str → Option Value} {base : Heap} {ts : TL1}
/-- worth -/
def spWorth (K : PySem.W.Frag) (ts : TL1) : Sp := fun vs H Q _ => ∃ (p l : Addr) (k : Str) (i n : Nat) (t : Tk) (ix : Nat), vs = [.ref p, .str k] ∧ Rdr K H p l ts i n ∧ ts[i]? = some (t, ix) ∧ Q (if t.kind = k then t.wv else .non) H
theorem ok_worth (T : Txt w K mg) : Cal P w K mg base 1 (ma K (ga K "Reader") "worth") ["self", "kind"] [] (spWorth K ts) := by
  obtain ⟨fd, F⟩ := T.d_Reader_worth
  refine cal_of F sc_Reader_worth (bi_plain F (F.bindsN fun _ _ _ _ _ _ us hl => match us, hl with | [_, _], _ => rfl)) (by rintro vs H Q E ⟨p, l, k, i, n, t, ix, rfl, _⟩; rfl) (fun cdv A outer s H vs Q E hr h => ?_)
  obtain ⟨p, l, k, i, n, t, ix, rfl, ⟨dx, xs, hp, hl, hd⟩, ht, q⟩ := h
  obtain ⟨a, hx, hs⟩ := tget hd ht
  refine ⟨_, (pss_cons (ps_set (i := 2) sc_Reader_worth.nd rfl (Or.inl rfl) (pe_ix ix_list (pe_fld (pv 0) rfl) (pe_fld (pv 0) rfl) (fun _ _ => rfl)))
 (pss_one (ps_ret (pe_ifExp (pt_cmpR op_eq (pe_ix ix_tup (pv 2) pe_int (fun _ _ => rfl)) (pv 1) (nomark _)) (pe_ix ix_tup (pv 2) pe_int (fun _ _ => rfl)) pe_non)))), ?_⟩
  refine ⟨_, rfl, p, _, dx, _, _, rfl, hp, T.k_Reader, T.na_Reader_tokens, rf_tokens _ _ _, ?_⟩
  refine ⟨_, rfl, p, _, dx, _, _, rfl, hp, T.k_Reader, T.na_Reader_at, rf_at _ _ _, ?_⟩
  refine ⟨l, xs, i, _, rfl, rfl, SqL.of hl, atI_nat hx, ?_⟩
  refine ⟨_, rfl, a, _, 0, _, rfl, rfl, hs, atI_nat (j := 0) rfl, _, rfl, scal_str, _, rfl, ?_⟩
  rw [dec_str]
  refine ite2 (fun c => ?_) (fun c => ?_)
  · have e := of_decide_eq_true c
    rw [if_pos e] at q
    exact ⟨_, rfl, a, _, 1, _, rfl, rfl, hs, atI_nat (j := 1) rfl, q⟩
  · have e := of_decide_eq_false (Bool.eq_false_iff.mpr c)
    rw [if_neg e] at q
    exact q
/-- skip -/
def Tk.is (t : Tk) (k z : Str) : Bool := decide (t.kind = k) && decide (t.wv = .str z)
def spSkip (K : PySem.W.Frag) (ts : TL1) : Sp := fun vs H Q _ => ∃ (p l : Addr) (k z : Str) (i n : Nat) (t : Tk) (ix : Nat), vs = [.ref p, .str k, .str z] ∧ Rdr K H p l ts i n ∧ ts[i]? = some (t, ix) ∧
  (t.is k z = true → ∀ H', But p H H' → Rdr K H' p l ts (i + 1) n → Q (.bl true) H') ∧ (t.is k z = false → Q (.bl false) H)
theorem scal_wv (t : Tk) (z : Str) : scal t.wv (.str z) = true := by cases t <;> rfl
theorem ok_skip (T : Txt w K mg) : Cal P w K mg base 2 (ma K (ga K "Reader") "skip") ["self", "kind", "worth"] [] (spSkip K ts) := by
  obtain ⟨fd, F⟩ := T.d_Reader_skip
  have c_Reader_worth := ok_worth (P := P) (base := base) (ts := ts) T
  refine cal_of F sc_Reader_skip (bi_plain F (F.bindsN fun _ _ _ _ _ _ us hl => match us, hl with | [_, _, _], _ => rfl)) (by rintro vs H Q E ⟨p, l, k, z, i, n, t, ix, rfl, _⟩; rfl) (fun cdv A outer s H vs Q E hr h => ?_)
  obtain ⟨p, l, k, z, i, n, t, ix, rfl, R, ht, q1, q2⟩ := h
  obtain ⟨dx, xs, hp, hl, hd⟩ := id R
  have hr_Reader_worth := hr
  refine ⟨_, (pss_cons (ps_if (pt_cmpR op_ne (pe_methC c_Reader_worth hr_Reader_worth T.k_Reader T.me_Reader_worth (pv 0) (pa_cons (pv 1) pa_nil)) (pv 2) (nomark _))
 (pss_one (ps_ret pe_bl))
 pss_nil)
 (pss_cons (ps_fldaug (pv 0) pe_int in_add)
 (pss_one (ps_ret pe_bl)))), ?_⟩
  refine ⟨_, rfl, p, dx, _, rfl, hp, rf_no _ _ _ (by decide +kernel) (by decide +kernel) (by decide +kernel), _, rfl, p, l, k, i, n, t, ix, rfl, R, ht, ?_⟩
  by_cases hk : t.kind = k
  · rw [if_pos hk]
    refine ⟨_, rfl, scal_wv _ _, _, rfl, ?_⟩
    by_cases hw : t.wv = .str z
    · rw [decide_eq_true hw]
      refine iteF ?_
      refine ⟨_, rfl, p, RC K, dx, _, _, rfl, hp, T.k_Reader, T.na_Reader_at, rf_at _ _ _, _, _, rfl, rfl, dx, _, hp, (by show 3 < 1000; decide), ?_⟩
      show Q (.bl true) _
      refine q1 (by unfold Tk.is; rw [decide_eq_true hk, decide_eq_true hw]; rfl) _ (but_upd _) ?_
      rw [rf_put_at]
      exact Rdr.put (i + 1) n hp hl hd
    · rw [decide_eq_false hw]
      refine iteT ?_
      exact q2 (by unfold Tk.is; rw [decide_eq_false hw, Bool.and_false])
  · rw [if_neg hk]
    refine ⟨_, rfl, rfl, _, rfl, ?_⟩
    refine iteT ?_
    exact q2 (by unfold Tk.is; rw [decide_eq_false hk]; rfl)
end
end Lx

set_option maxHeartbeats 4000000
namespace Lx
open PySem PySem.Spec PyProof.Rows L2 He SX Tx
section
variable {P : Program} {w : World} {K : PySem.W.Frag} {mg : Str → Option Value} {base : Heap} {ts : TL1}
/-- need -/
def spNeed (K : PySem.W.Frag) (ts : TL1) : Sp := fun vs H Q _ => ∃ (p l : Addr) (k z : Str) (i n : Nat) (t : Tk) (ix : Nat), vs = [.ref p, .str k, .str z] ∧ Rdr K H p l ts i n ∧ ts[i]? = some (t, ix) ∧ t.is k z = true ∧ ∀ H', But p H H' → Rdr K H' p l ts (i + 1) n → Q .non H'
theorem ok_need (T : Txt w K mg) : Cal P w K mg base 3 (ma K (ga K "Reader") "need") ["self", "kind", "worth"] [] (spNeed K ts) := by
  obtain ⟨fd, F⟩ := T.d_Reader_need
  have c_Reader_skip := ok_skip (P := P) (base := base) (ts := ts) T
  refine cal_of F sc_Reader_need (bi_plain F (F.bindsN fun _ _ _ _ _ _ us hl => match us, hl with | [_, _, _], _ => rfl)) (by rintro vs H Q E ⟨p, l, k, z, i, n, t, ix, rfl, _⟩; rfl) (fun cdv A outer s H vs Q E hr h => ?_)
  obtain ⟨p, l, k, z, i, n, t, ix, rfl, R, ht, hi, q⟩ := h
  obtain ⟨dx, xs, hp, hl, hd⟩ := id R
  have hr_Reader_skip := hr
  refine ⟨_, (pss_one (ps_if (pt_not (pt_val (pe_methC c_Reader_skip hr_Reader_skip T.k_Reader T.me_Reader_skip (pv 0) (pa_cons (pv 1) (pa_cons (pv 2) pa_nil)))))
 (pss_one ps_never)
 pss_nil)), ?_⟩
  refine ⟨_, rfl, p, dx, _, rfl, hp, rf_no _ _ _ (by decide +kernel) (by decide +kernel) (by decide +kernel), _, rfl, _, rfl, p, l, k, z, i, n, t, ix, rfl, R, ht, fun _ H' b R' => ?_, fun z => ?_⟩
  · exact ⟨_, rfl, iteF (q H' b R')⟩
  · rw [hi] at z; cases z
/-- enter -/
def spEnter (K : PySem.W.Frag) (ts : TL1) : Sp := fun vs H Q _ => ∃ (p l : Addr) (i n : Nat), vs = [.ref p] ∧ Rdr K H p l ts i n ∧ n < 12 ∧ ∀ H', But p H H' → Rdr K H' p l ts i (n + 1) → Q .non H'
theorem ok_enter (T : Txt w K mg) : Cal P w K mg base 1 (ma K (ga K "Reader") "enter") ["self"] [] (spEnter K ts) := by
  obtain ⟨fd, F⟩ := T.d_Reader_enter
  refine cal_of F sc_Reader_enter (bi_plain F (F.bindsN fun _ _ _ _ _ _ us hl => match us, hl with | [_], _ => rfl)) (by rintro vs H Q E ⟨p, l, i, n, rfl, _⟩; rfl) (fun cdv A outer s H vs Q E hr h => ?_)
  obtain ⟨p, l, i, n, rfl, ⟨dx, xs, hp, hl, hd⟩, hn, q⟩ := h
  refine ⟨_, (pss_cons (ps_fldaug (pv 0) pe_int in_add)
 (pss_one (ps_if (pt_cmpR op_gt (pe_fld (pv 0) rfl) (pe_gI T.c_MOST_NESTED) (nomark _))
 (pss_one ps_never)
 pss_nil))), ?_⟩
  refine ⟨_, rfl, p, RC K, dx, _, _, rfl, hp, T.k_Reader, T.na_Reader_nested, rf_nested _ _ _, _, _, rfl, rfl, dx, _, hp, (by show 3 < 1000; decide), ?_⟩
  have R' := Rdr.put (K := K) i (n + 1) hp hl hd
  have e : putF "nested" (V.int ((n : Int) + 1)) (rf l (i : Int) (n : Int)) = rf l (i : Int) ((n + 1 : Nat) : Int) := rf_put_nested _ _ _ _
  rw [e]
  refine ⟨_, rfl, p, _, dx, _, _, rfl, upd_same, T.k_Reader, T.na_Reader_nested, rf_nested _ _ _, _, _, rfl, rfl, _, rfl, ite2 (fun c => ?_) (fun _ => ?_)⟩
  · exfalso
    have := of_decide_eq_true c
    omega
  · exact q _ (but_upd _) R'
/-- name -/
def KWS : List Str := ["if", "else", "while", "for", "in", "try", "tell", "and", "or"]
def spName (K : PySem.W.Frag) (ts : TL1) : Sp := fun vs H Q _ => ∃ (p l : Addr) (i n : Nat) (z : List Nat) (ix : Nat), vs = [.ref p] ∧ Rdr K H p l ts i n ∧ ts[i]? = some (.word z, ix) ∧ ¬ S z ∈ KWS ∧ ∀ H', But p H H' → Rdr K H' p l ts (i + 1) n → Q (.str (S z)) H'
theorem ok_name (T : Txt w K mg) : Cal P w K mg base 2 (ma K (ga K "Reader") "name") ["self"] [] (spName K ts) := by
  obtain ⟨fd, F⟩ := T.d_Reader_name
  have c_Reader_worth := ok_worth (P := P) (base := base) (ts := ts) T
  refine cal_of F sc_Reader_name (bi_plain F (F.bindsN fun _ _ _ _ _ _ us hl => match us, hl with | [_], _ => rfl)) (by rintro vs H Q E ⟨p, l, i, n, z, ix, rfl, _⟩; rfl) (fun cdv A outer s H vs Q E hr h => ?_)
  obtain ⟨p, l, i, n, z, ix, rfl, R, ht, hk, q⟩ := h
  obtain ⟨dx, xs, hp, hl, hd⟩ := id R
  have hr_Reader_worth := hr
  refine ⟨_, (pss_cons (ps_set (i := 1) sc_Reader_name.nd rfl (Or.inl rfl) (pe_methC c_Reader_worth hr_Reader_worth T.k_Reader T.me_Reader_worth (pv 0) (pa_cons pe_str pa_nil)))
 (pss_cons (ps_if (pw_or (pt_cmpR op_isN (pv 1) pe_non (nomark _)) (pw_or1 (pt_cmpR op_in_seq (pv 1) (pe_gR T.g_KEYWORDS) (by rfl)))).pt
 (pss_one ps_never)
 pss_nil)
 (pss_cons (ps_fldaug (pv 0) pe_int in_add)
 (pss_one (ps_ret (pv 1)))))), ?_⟩
  refine ⟨_, rfl, p, dx, _, rfl, hp, rf_no _ _ _ (by decide +kernel) (by decide +kernel) (by decide +kernel), p, l, _, i, n, _, ix, rfl, R, ht, ?_⟩
  rw [if_pos (show (Tk.word z).kind = "word" from rfl)]
  refine ⟨_, rfl, rfl, _, rfl, iteF ?_⟩
  refine ⟨_, rfl, _, _, rfl, .inr (T.t_KEYWORDS _), rfl, rfl, _, rfl, ?_⟩
  have e : inV (.str (S z)) (KWS.map V.str) = false := by rw [in_strs]; exact decide_eq_false hk
  refine (show (if inV (.str (S z)) (KWS.map V.str) = true then _ else _) from ?_)
  rw [e]
  refine iteF ?_
  refine ⟨_, rfl, p, RC K, dx, _, _, rfl, hp, T.k_Reader, T.na_Reader_at, rf_at _ _ _, _, _, rfl, rfl, dx, _, hp, (by show 3 < 1000; decide), ?_⟩
  refine ⟨_, rfl, q _ (but_upd _) ?_⟩
  rw [rf_put_at]
  exact Rdr.put (i + 1) n hp hl hd
/-- operator -/
def isOp (t : Tk) (rank : Nat) : Option (List Nat) := match t with
  | .word z => if S z ∈ RKS.getD rank [] then some z else none
  | .sign z => if S z ∈ RKS.getD rank [] then some z else none
  | _ => none
def spOperator (K : PySem.W.Frag) (ts : TL1) : Sp := fun vs H Q _ => ∃ (p l : Addr) (rank i n : Nat) (t : Tk) (ix : Nat), vs = [.ref p, .int rank] ∧ rank < 5 ∧ Rdr K H p l ts i n ∧ ts[i]? = some (t, ix) ∧ (∀ H', But p H H' → (isOp t rank = none → Rdr K H' p l ts i n → Q .non H') ∧ (∀ z, isOp t rank = some z → Rdr K H' p l ts (i + 1) n → Q (.str (S z)) H'))
theorem ranks_at (K : PySem.W.Frag) {rank : Nat} (h : rank < 5) : atI [V.ref (rk K 0), V.ref (rk K 1), V.ref (rk K 2), V.ref (rk K 3), V.ref (rk K 4)] (rank : Int) = some (.ref (rk K rank)) := by
  refine atI_nat (j := rank) ?_
  match rank, h with
  | 0, _ => rfl
  | 1, _ => rfl
  | 2, _ => rfl
  | 3, _ => rfl
  | 4, _ => rfl
theorem kinds2 (t : Tk) : inV (.str t.kind) [V.str "word", V.str "sign"] = (match t with | .word _ => true | .sign _ => true | _ => false) := by
  have e : inV (.str t.kind) ((["word", "sign"] : List Str).map V.str) = _ := in_strs _ _
  refine e.trans ?_
  cases t with
  | num n => exact (by decide +kernel : decide (("number" : Str) ∈ (["word", "sign"] : List Str)) = false)
  | txt l => exact (by decide +kernel : decide (("text" : Str) ∈ (["word", "sign"] : List Str)) = false)
  | word l => exact (by decide +kernel : decide (("word" : Str) ∈ (["word", "sign"] : List Str)) = true)
  | sign l => exact (by decide +kernel : decide (("sign" : Str) ∈ (["word", "sign"] : List Str)) = true)
  | eof => exact (by decide +kernel : decide (("end" : Str) ∈ (["word", "sign"] : List Str)) = false)
theorem flat_strs : ∀ zs : List Str, (zs.map V.str).all flatV = true
  | [] => rfl
  | _ :: zs => by
    show (flatV _ && (zs.map V.str).all flatV) = true
    rw [flat_strs zs]
    rfl
theorem ok_operator (T : Txt w K mg) : Cal P w K mg base 1 (ma K (ga K "Reader") "operator") ["self", "rank"] [] (spOperator K ts) := by
  obtain ⟨fd, F⟩ := T.d_Reader_operator
  refine cal_of F sc_Reader_operator (bi_plain F (F.bindsN fun _ _ _ _ _ _ us hl => match us, hl with | [_, _], _ => rfl)) (by rintro vs H Q E ⟨p, l, rank, i, n, t, ix, rfl, _⟩; rfl) (fun cdv A outer s H vs Q E hr h => ?_)
  obtain ⟨p, l, rank, i, n, t, ix, rfl, hrk, R, ht, q⟩ := h
  obtain ⟨dx, xs, hp, hl, hd⟩ := id R
  obtain ⟨a, hx, hs⟩ := tget hd ht
  refine ⟨_, (pss_cons (ps_set (i := 2) sc_Reader_operator.nd rfl (Or.inl rfl) (pe_ix ix_list (pe_fld (pv 0) rfl) (pe_fld (pv 0) rfl) (fun _ _ => rfl)))
 (pss_cons (ps_if (pw_or (pt_cmpR op_notIn_seq (pe_ix ix_tup (pv 2) pe_int (fun _ _ => rfl)) (pe_tup (pa_cons pe_str (pa_cons pe_str pa_nil))) (by rfl)) (pw_or1 (pt_cmpR op_notIn_seq (pe_ix ix_tup (pv 2) pe_int (fun _ _ => rfl)) (pe_ix ix_tup (pe_gR T.g_RANKS) (pv 1) (fun _ _ => rfl)) (by rfl)))).pt
 (pss_one (ps_ret pe_non))
 pss_nil)
 (pss_cons (ps_fldaug (pv 0) pe_int in_add)
 (pss_one (ps_ret (pe_ix ix_tup (pv 2) pe_int (fun _ _ => rfl))))))), ?_⟩
  refine ⟨_, rfl, p, _, dx, _, _, rfl, hp, T.k_Reader, T.na_Reader_tokens, rf_tokens _ _ _, ?_⟩
  refine ⟨_, rfl, p, _, dx, _, _, rfl, hp, T.k_Reader, T.na_Reader_at, rf_at _ _ _, ?_⟩
  refine ⟨l, xs, i, _, rfl, rfl, SqL.of hl, atI_nat hx, ?_⟩
  refine ⟨_, rfl, a, _, 0, _, rfl, rfl, hs, atI_nat (j := 0) rfl, (by show 2 ≤ sizeLine; decide), fun u hu => ?_⟩
  have s1 : Same H (upd H u (.tup [V.str "word", V.str "sign"])) := same_upd hu _
  have hs' := sqT_same s1 hs
  refine ⟨u, _, rfl, .inr (SqT.of upd_same), rfl, rfl, _, rfl, ?_⟩
  have ks := kinds2 t
  have R1 : Rdr K (upd H u (.tup [V.str "word", V.str "sign"])) p l ts i n := R.same s1
  have b1 : But p H (upd H u (.tup [V.str "word", V.str "sign"])) := fun x o _ e => s1 x o e
  obtain ⟨dx1, xs1, hp1, hl1, hd1⟩ := id R1
  cases t with
  | num z => rw [ks]; exact iteT (iteT ((q _ b1).1 rfl R1))
  | txt z => rw [ks]; exact iteT (iteT ((q _ b1).1 rfl R1))
  | eof => rw [ks]; exact iteT (iteT ((q _ b1).1 rfl R1))
  | word z => 
    rw [ks]
    refine iteF ?_
    refine ⟨_, rfl, a, _, 1, _, rfl, rfl, hs', atI_nat (j := 1) rfl, _, rfl, _, _, rank, _, rfl, rfl, T.t_RANKS _, ranks_at K hrk, _, _, rfl, .inr (T.rk_RANKS rank hrk _), rfl, flat_strs _, _, rfl, ?_⟩
    have e : inV (.str (S z)) ((RKS.getD rank []).map V.str) = decide (S z ∈ RKS.getD rank []) := in_strs _ _
    by_cases hm : S z ∈ RKS.getD rank []
    · rw [decide_eq_true hm] at e
      refine (show (if (!inV (.str (S z)) ((RKS.getD rank []).map V.str)) = true then _ else _) from ?_)
      rw [e]
      refine iteF ?_
      refine ⟨_, rfl, p, RC K, dx1, _, _, rfl, hp1, T.k_Reader, T.na_Reader_at, rf_at _ _ _, _, _, rfl, rfl, dx1, _, hp1, (by show 3 < 1000; decide), ?_⟩
      rw [rf_put_at]
      have b2 : But p (upd H u (.tup [V.str "word", V.str "sign"])) (upd (upd H u (.tup [V.str "word", V.str "sign"])) p (HO.ins (RC K) dx1 (rf l ((i : Int) + 1) n))) := but_upd _
      have ns : NoSeq ((upd H u (.tup [V.str "word", V.str "sign"])) p) := by rw [hp1]; trivial
      refine ⟨_, rfl, a, _, 1, _, rfl, rfl, sqT_but ns b2 hs', atI_nat (j := 1) rfl, ?_⟩
      exact (q _ (fun x o ne e => b2 x o ne (s1 x o e))).2 z (if_pos hm) (Rdr.put (i + 1) n hp1 hl1 hd1)
    · rw [decide_eq_false hm] at e
      refine (show (if (!inV (.str (S z)) ((RKS.getD rank []).map V.str)) = true then _ else _) from ?_)
      rw [e]
      exact iteT ((q _ b1).1 (if_neg hm) R1)
  | sign z => 
    rw [ks]
    refine iteF ?_
    refine ⟨_, rfl, a, _, 1, _, rfl, rfl, hs', atI_nat (j := 1) rfl, _, rfl, _, _, rank, _, rfl, rfl, T.t_RANKS _, ranks_at K hrk, _, _, rfl, .inr (T.rk_RANKS rank hrk _), rfl, flat_strs _, _, rfl, ?_⟩
    have e : inV (.str (S z)) ((RKS.getD rank []).map V.str) = decide (S z ∈ RKS.getD rank []) := in_strs _ _
    by_cases hm : S z ∈ RKS.getD rank []
    · rw [decide_eq_true hm] at e
      refine (show (if (!inV (.str (S z)) ((RKS.getD rank []).map V.str)) = true then _ else _) from ?_)
      rw [e]
      refine iteF ?_
      refine ⟨_, rfl, p, RC K, dx1, _, _, rfl, hp1, T.k_Reader, T.na_Reader_at, rf_at _ _ _, _, _, rfl, rfl, dx1, _, hp1, (by show 3 < 1000; decide), ?_⟩
      rw [rf_put_at]
      have b2 : But p (upd H u (.tup [V.str "word", V.str "sign"])) (upd (upd H u (.tup [V.str "word", V.str "sign"])) p (HO.ins (RC K) dx1 (rf l ((i : Int) + 1) n))) := but_upd _
      have ns : NoSeq ((upd H u (.tup [V.str "word", V.str "sign"])) p) := by rw [hp1]; trivial
      refine ⟨_, rfl, a, _, 1, _, rfl, rfl, sqT_but ns b2 hs', atI_nat (j := 1) rfl, ?_⟩
      exact (q _ (fun x o ne e => b2 x o ne (s1 x o e))).2 z (if_pos hm) (Rdr.put (i + 1) n hp1 hl1 hd1)
    · rw [decide_eq_false hm] at e
      refine (show (if (!inV (.str (S z)) ((RKS.getD rank []).map V.str)) = true then _ else _) from ?_)
      rw [e]
      exact iteT ((q _ b1).1 (if_neg hm) R1)
end
end Lx

set_option maxHeartbeats 4000000
namespace Lx
open PySem PySem.Spec PyProof.Rows L2 He SX Tx
/-! ### expressions -/
inductive Ex where
  | num (n : Nat)
  | txt (l : List Nat)
  | var (l : List Nat)
  | call (w : List Nat) (ps : List Ex)
  | chain (r : Nat) (f : Ex) (rs : List (List Nat × Ex))
mutual
def exD : Ex → PyData
  | .num n => .tuple [.str "number", .int n]
  | .txt l => .tuple [.str "text", .str (S l)]
  | .var l => .tuple [.str "variable", .str (S l)]
  | .call w ps => .tuple [.str "call", .str (S w), .tuple (exsD ps)]
  | .chain r f rs => .tuple [.str "chain", .int r, exD f, .tuple (rsD rs)]
def exsD : List Ex → List PyData
  | [] => []
  | e :: es => exD e :: exsD es
def rsD : List (List Nat × Ex) → List PyData
  | [] => []
  | (z, e) :: rs => .tuple [.str (S z), exD e] :: rsD rs
end
theorem exsD_len : ∀ es : List Ex, (exsD es).length = es.length
  | [] => rfl
  | _ :: es => congrArg Nat.succ (exsD_len es)
theorem rsD_len : ∀ rs : List (List Nat × Ex), (rsD rs).length = rs.length
  | [] => rfl
  | (_, _) :: rs => congrArg Nat.succ (rsD_len rs)
theorem exsD_app : ∀ (es : List Ex) (e : Ex), exsD (es ++ [e]) = exsD es ++ [exD e]
  | [], _ => rfl
  | x :: es, e => congrArg (exD x :: ·) (exsD_app es e)
theorem rsD_app : ∀ (rs : List (List Nat × Ex)) (z : List Nat) (e : Ex), rsD (rs ++ [(z, e)]) = rsD rs ++ [.tuple [.str (S z), exD e]]
  | [], _, _ => rfl
  | (x, y) :: rs, z, e => congrArg (PyData.tuple [.str (S x), exD y] :: ·) (rsD_app rs z e)
/-! ### data of tuples, numbers and texts alone -/
mutual
inductive TO : PyData → Prop
  | int (i : Int) : TO (.int i)
  | str (x : Str) : TO (.str x)
  | tup {ds : List PyData} : TOs ds → TO (.tuple ds)
inductive TOs : List PyData → Prop
  | nil : TOs []
  | cons {d : PyData} {ds : List PyData} : TO d → TOs ds → TOs (d :: ds)
end
mutual
theorem exD_to : ∀ e : Ex, TO (exD e)
  | .num n => .tup (.cons (.str _) (.cons (.int _) .nil))
  | .txt l => .tup (.cons (.str _) (.cons (.str _) .nil))
  | .var l => .tup (.cons (.str _) (.cons (.str _) .nil))
  | .call w ps => .tup (.cons (.str _) (.cons (.str _) (.cons (.tup (exsD_to ps)) .nil)))
  | .chain r f rs => .tup (.cons (.str _) (.cons (.int _) (.cons (exD_to f) (.cons (.tup (rsD_to rs)) .nil))))
theorem exsD_to : ∀ es : List Ex, TOs (exsD es)
  | [] => .nil
  | e :: es => .cons (exD_to e) (exsD_to es)
theorem rsD_to : ∀ rs : List (List Nat × Ex), TOs (rsD rs)
  | [] => .nil
  | (z, e) :: rs => .cons (.tup (.cons (.str _) (.cons (exD_to e) .nil))) (rsD_to rs)
end
theorem tokD_to (t : Tk) (i : Nat) : TO (tokD t i) := by
  cases t <;> exact .tup (.cons (.str _) (.cons (by first | exact .int _ | exact .str _) (.cons (.int _) .nil)))
theorem toks_to : ∀ ts : TL1, TOs (ts.map fun t => tokD t.1 t.2)
  | [] => .nil
  | t :: ts => .cons (tokD_to t.1 t.2) (toks_to ts)
/-- a list or an object -/
def NoTup (o : Option HO) : Prop := match o with
  | some (.ins _ _ _) => True
  | some (.own _) => True
  | some (.lst _) => True
  | _ => False
theorem NoTup.t {H : Hp} {p a : Addr} {xs : List V} (n : NoTup (H p)) (h : Rd H a (.tup xs)) : a ≠ p := by
  rintro rfl
  rcases h with h | ⟨o, h⟩ <;> · rw [h] at n; exact n
theorem sqT_butT {K : PySem.W.Frag} {H H' : Hp} {p a : Addr} {xs : List V} (n : NoTup (H p)) (e : But p H H') (h : SqT K H a xs) : SqT K H' a xs := by
  rcases h with h | h
  · have z := n.t h
    rcases h with h | ⟨o, h⟩
    · exact .inl (.inl (e _ _ z h))
    · exact .inl (.inr ⟨o, e _ _ z h⟩)
  · exact .inr h
theorem TO.tups {ds : List PyData} (h : TO (.tuple ds)) : TOs ds := by
  cases h
  assumption
theorem TO.nl {ds : List PyData} (h : TO (.list ds)) : False := by cases h
theorem TOs.hd {d : PyData} {ds : List PyData} (h : TOs (d :: ds)) : TO d := by
  cases h
  assumption
theorem TOs.tl {d : PyData} {ds : List PyData} (h : TOs (d :: ds)) : TOs ds := by
  cases h
  assumption
mutual
theorem dp_butT {K : PySem.W.Frag} {H H' : Hp} {p : Addr} (n : NoTup (H p)) (e : But p H H') : ∀ {v : V} {d : PyData}, Dp K H v d → TO d → Dp K H' v d
  | _, _, .non, _ => .non
  | _, _, .bl b, _ => .bl b
  | _, _, .int i, _ => .int i
  | _, _, .str x, _ => .str x
  | _, _, .lst h a, t => t.nl.elim
  | _, _, .tup h a, t => .tup (sqT_butT n e h) (dpa_butT n e a t.tups)
theorem dpa_butT {K : PySem.W.Frag} {H H' : Hp} {p : Addr} (n : NoTup (H p)) (e : But p H H') : ∀ {vs : List V} {ds : List PyData}, DpAll K H vs ds → TOs ds → DpAll K H' vs ds
  | _, _, .nil, _ => .nil
  | _, _, .cons h a, t => .cons (dp_butT n e h t.hd) (dpa_butT n e a t.tl)
end
/-! ### how tokens are read -/
def okArgs (w : List Nat) (n : Nat) : Prop := ∃ c : Int, (S w, c) ∈ PRM ∧ c = n
mutual
inductive PC (ts : TL1) : Nat → Nat → Nat → Nat → Ex → Nat → Prop
  | opd {k i n e j} : PO ts k i n e j → PC ts (k + 1) 5 i n e j
  | one {k r i n e j t ix} : r < 5 → PC ts k (r + 1) i n e j → ts[j]? = some (t, ix) → isOp t r = none → PC ts (k + 1) r i n e j
  | many {k r i n f j x rs j'} : r < 5 → PC ts k (r + 1) i n f j → PR ts k r j n (x :: rs) j' → SeqAt.shaped (.list (rsD (x :: rs))) = true → (x :: rs).length < sizeLine → PC ts (k + 1) r i n (.chain r f (x :: rs)) j'
inductive PR (ts : TL1) : Nat → Nat → Nat → Nat → List (List Nat × Ex) → Nat → Prop
  | nil {k r i n t ix} : ts[i]? = some (t, ix) → isOp t r = none → PR ts k r i n [] i
  | last {k i n t ix z e j} : ts[i]? = some (t, ix) → isOp t 2 = some z → PC ts k 3 (i + 1) n e j → PR ts k 2 i n [(z, e)] j
  | cons {k r i n t ix z e j rs j'} : r ≠ 2 → ts[i]? = some (t, ix) → isOp t r = some z → PC ts k (r + 1) (i + 1) n e j → PR ts k r j n rs j' → PR ts k r i n ((z, e) :: rs) j'
inductive PO (ts : TL1) : Nat → Nat → Nat → Ex → Nat → Prop
  | num {k i n v ix} : ts[i]? = some (.num v, ix) → PO ts (k + 1) i n (.num v) (i + 1)
  | txt {k i n v ix} : ts[i]? = some (.txt v, ix) → PO ts (k + 1) i n (.txt v) (i + 1)
  | par {k i n ix e j ix'} : ts[i]? = some (.sign [40], ix) → n < 12 → PC ts k 0 (i + 1) (n + 1) e j → ts[j]? = some (.sign [41], ix') → PO ts (k + 1) i n e (j + 1)
  | var {k i n z ix t ix'} : ts[i]? = some (.word z, ix) → ¬ S z ∈ KWS → ts[i + 1]? = some (t, ix') → t.is "sign" "(" = false → PO ts (k + 1) i n (.var z) (i + 1)
  | call {k i n z ix ix' es j} : ts[i]? = some (.word z, ix) → ¬ S z ∈ KWS → ts[i + 1]? = some (.sign [40], ix') → n < 12 → PA ts k (i + 2) (n + 1) es j → okArgs z es.length → PO ts (k + 1) i n (.call z es) j
inductive PA (ts : TL1) : Nat → Nat → Nat → List Ex → Nat → Prop
  | nil {k i n ix} : ts[i]? = some (.sign [41], ix) → PA ts (k + 1) i n [] (i + 1)
  | cons {k i n e j es j' t ix} : ts[i]? = some (t, ix) → t.is "sign" ")" = false → PC ts k 0 i n e j → PS ts k j n es j' → es.length < 1000 → PA ts (k + 1) i n (e :: es) j'
inductive PS (ts : TL1) : Nat → Nat → Nat → List Ex → Nat → Prop
  | nil {k i n ix} : ts[i]? = some (.sign [41], ix) → PS ts k i n [] (i + 1)
  | cons {k i n ix e j es j'} : ts[i]? = some (.sign [44], ix) → PC ts k 0 (i + 1) n e j → PS ts k j n es j' → PS ts k i n (e :: es) j'
end
theorem kinds3 (t : Tk) : inV (.str t.kind) [V.str "number", V.str "text"] = (match t with | .num _ => true | .txt _ => true | _ => false) := by
  have e : inV (.str t.kind) ((["number", "text"] : List Str).map V.str) = _ := in_strs _ _
  refine e.trans ?_
  cases t with
  | num n => exact (by decide +kernel : decide (("number" : Str) ∈ (["number", "text"] : List Str)) = true)
  | txt l => exact (by decide +kernel : decide (("text" : Str) ∈ (["number", "text"] : List Str)) = true)
  | word l => exact (by decide +kernel : decide (("word" : Str) ∈ (["number", "text"] : List Str)) = false)
  | sign l => exact (by decide +kernel : decide (("sign" : Str) ∈ (["number", "text"] : List Str)) = false)
  | eof => exact (by decide +kernel : decide (("end" : Str) ∈ (["number", "text"] : List Str)) = false)
/-- hands back what was read -/
def RetR (K : PySem.W.Frag) (H : Hp) (p l : Addr) (ts : TL1) (j n : Nat) (Q : VK) (d : PyData) : Prop := ∀ v H', But p H H' → Rdr K H' p l ts j n → Dp K H' v d → Q v H'
def spChain (K : PySem.W.Frag) (ts : TL1) (k : Nat) : Sp := fun vs H Q _ => ∃ (p l : Addr) (r i n : Nat) (e : Ex) (j : Nat), vs = [.ref p, .int r] ∧ Rdr K H p l ts i n ∧ PC ts k r i n e j ∧ RetR K H p l ts j n Q (exD e)
def spOperand (K : PySem.W.Frag) (ts : TL1) (k : Nat) : Sp := fun vs H Q _ => ∃ (p l : Addr) (i n : Nat) (e : Ex) (j : Nat), vs = [.ref p] ∧ Rdr K H p l ts i n ∧ PO ts k i n e j ∧ RetR K H p l ts j n Q (exD e)
def spArguments (K : PySem.W.Frag) (ts : TL1) (k : Nat) : Sp := fun vs H Q _ => ∃ (p l : Addr) (i n : Nat) (es : List Ex) (j : Nat), vs = [.ref p] ∧ Rdr K H p l ts i n ∧ PA ts k i n es j ∧ RetR K H p l ts j n Q (.tuple (exsD es))
theorem Rdr.at1 {K : PySem.W.Frag} {H : Hp} {p dx l : Addr} {vs : List V} {ts : TL1} {i n : Nat} (hp : H p = some (.ins (RC K) dx (rf l i n))) (hl : H l = some (.lst vs)) (hd : DpAll K H vs (ts.map fun t => tokD t.1 t.2)) :
    Rdr K (upd H p (.ins (RC K) dx (putF "at" (.int ((i : Int) + 1)) (rf l i n)))) p l ts (i + 1) n := by
  rw [rf_put_at]
  exact Rdr.put (i + 1) n hp hl hd
theorem Rdr.nest1 {K : PySem.W.Frag} {H : Hp} {p dx l : Addr} {vs : List V} {ts : TL1} {i n : Nat} (hp : H p = some (.ins (RC K) dx (rf l i (n + 1 : Nat)))) (hl : H l = some (.lst vs)) (hd : DpAll K H vs (ts.map fun t => tokD t.1 t.2)) :
    Rdr K (upd H p (.ins (RC K) dx (putF "nested" (.int (((n + 1 : Nat) : Int) - 1)) (rf l i (n + 1 : Nat))))) p l ts i n := by
  rw [rf_put_nested, show (((n + 1 : Nat) : Int) - 1) = (n : Int) by omega]
  exact Rdr.put i n hp hl hd
theorem isSign (z : List Nat) (k : Str) (h : S z = k) : (Tk.sign z).is "sign" k = true := by
  show (decide (("sign" : Str) = "sign") && decide (V.str (S z) = V.str k)) = true
  rw [decide_eq_true rfl, decide_eq_true (congrArg V.str h)]
  rfl
theorem notSign {t : Tk} (h : t.kind ≠ "sign") (z : Str) : t.is "sign" z = false := by
  unfold Tk.is
  rw [decide_eq_false h]
  rfl
theorem S_40 : S [40] = "(" := by decide +kernel
theorem S_41 : S [41] = ")" := by decide +kernel
theorem S_44 : S [44] = "," := by decide +kernel
theorem RetR.mk {K : PySem.W.Frag} {H H1 : Hp} {p l : Addr} {ts : TL1} {j n : Nat} {Q : VK} {d : PyData} (q : RetR K H p l ts j n Q d) (b : But p H H1) : RetR K H1 p l ts j n Q d := fun v H' b' R' D => q v H' (b.trans b') R' D
section
variable {P : Program} {w : World} {K : PySem.W.Frag} {mg : Str → Option Value} {base : Heap} {ts : TL1}
theorem ok_operand0 (T : Txt w K mg) {k : Nat} (c_Reader_chain : Cal P w K mg base (k + 3) (ma K (ga K "Reader") "chain") ["self", "rank"] [] (spChain K ts k)) (c_Reader_arguments : Cal P w K mg base (k + 3) (ma K (ga K "Reader") "arguments") ["self"] [] (spArguments K ts k)) :
    Cal P w K mg base (k + 4) (ma K (ga K "Reader") "operand") ["self"] [] (spOperand K ts (k + 1)) := by
  obtain ⟨fd, F⟩ := T.d_Reader_operand
  have c_Reader_skip := ok_skip (P := P) (base := base) (ts := ts) T
  have c_Reader_need := ok_need (P := P) (base := base) (ts := ts) T
  have c_Reader_enter := ok_enter (P := P) (base := base) (ts := ts) T
  have c_Reader_name := ok_name (P := P) (base := base) (ts := ts) T
  obtain ⟨es, kn, KP⟩ := T.kd_PARAMETERS
  refine cal_of F sc_Reader_operand (bi_plain F (F.bindsN fun _ _ _ _ _ _ us hl => match us, hl with | [_], _ => rfl)) (by rintro vs H Q E ⟨p, l, i, n, e, j, rfl, _⟩; rfl) (fun cdv A outer s H vs Q E hr h => ?_)
  obtain ⟨p, l, i, n, e, j, rfl, R, po, q⟩ := h
  obtain ⟨dx, xs, hp, hl, hd⟩ := id R
  have hr_Reader_chain := hr
  have hr_Reader_arguments := hr
  have hr_Reader_skip := hr.mono (by omega : 2 ≤ k + 3)
  have hr_Reader_need := hr.mono (by omega : 3 ≤ k + 3)
  have hr_Reader_enter := hr.mono (by omega : 1 ≤ k + 3)
  have hr_Reader_name := hr.mono (by omega : 2 ≤ k + 3)
  refine ⟨_, (pss_cons (ps_asg (pe_ix ix_list (pe_fld (pv 0) rfl) (pe_fld (pv 0) rfl) (fun _ _ => rfl)) (pg_tup rfl (pgs_cons (pg_name (i := 1) sc_Reader_operand.nd rfl (Or.inl rfl)) (pgs_cons (pg_name (i := 2) sc_Reader_operand.nd rfl (Or.inl rfl)) (pgs_cons (pg_name (i := 3) sc_Reader_operand.nd rfl (Or.inl rfl)) pgs_nil)))))
 (pss_cons (ps_if (pt_cmpR op_in_seq (pv 1) (pe_tup (pa_cons pe_str (pa_cons pe_str pa_nil))) (by rfl))
 (pss_cons (ps_fldaug (pv 0) pe_int in_add)
 (pss_one (ps_ret (pe_tup (pa_cons (pv 1) (pa_cons (pv 2) pa_nil))))))
 pss_nil)
 (pss_cons (ps_if (pt_val (pe_methC c_Reader_skip hr_Reader_skip T.k_Reader T.me_Reader_skip (pv 0) (pa_cons pe_str (pa_cons pe_str pa_nil))))
 (pss_cons (ps_expr (pe_methC0 c_Reader_enter hr_Reader_enter T.k_Reader T.me_Reader_enter (pv 0)))
 (pss_cons (ps_set (i := 4) sc_Reader_operand.nd rfl (Or.inl rfl) (pe_methC c_Reader_chain hr_Reader_chain T.k_Reader T.me_Reader_chain (pv 0) (pa_cons pe_int pa_nil)))
 (pss_cons (ps_expr (pe_methC c_Reader_need hr_Reader_need T.k_Reader T.me_Reader_need (pv 0) (pa_cons pe_str (pa_cons pe_str pa_nil))))
 (pss_cons (ps_fldaug (pv 0) pe_int in_sub)
 (pss_one (ps_ret (pv 4)))))))
 pss_nil)
 (pss_cons (ps_set (i := 5) sc_Reader_operand.nd rfl (Or.inl rfl) (pe_methC0 c_Reader_name hr_Reader_name T.k_Reader T.me_Reader_name (pv 0)))
 (pss_cons (ps_if (pt_not (pt_val (pe_methC c_Reader_skip hr_Reader_skip T.k_Reader T.me_Reader_skip (pv 0) (pa_cons pe_str (pa_cons pe_str pa_nil)))))
 (pss_one (ps_ret (pe_tup (pa_cons pe_str (pa_cons (pv 5) pa_nil)))))
 pss_nil)
 (pss_cons (ps_expr (pe_methC0 c_Reader_enter hr_Reader_enter T.k_Reader T.me_Reader_enter (pv 0)))
 (pss_cons (ps_set (i := 6) sc_Reader_operand.nd rfl (Or.inl rfl) (pe_methC0 c_Reader_arguments hr_Reader_arguments T.k_Reader T.me_Reader_arguments (pv 0)))
 (pss_cons (ps_fldaug (pv 0) pe_int in_sub)
 (pss_cons (ps_if (pt_cmpR op_ne (pe_kget2 KP (pe_gR T.g_PARAMETERS) (pv 5) (pe_un un_neg pe_int) ⟨rfl, rfl, rfl, rfl⟩) (pe_callB call_len_seq (by rfl) T.n_len PySem.boot_len (pa_cons (pv 6) pa_nil)) (nomark _))
 (pss_one ps_never)
 pss_nil)
 (pss_one (ps_ret (pe_tup (pa_cons pe_str (pa_cons (pv 5) (pa_cons (pv 6) pa_nil))))))))))))))), ?_⟩
  obtain ⟨t, ix, ht⟩ : ∃ t ix, ts[i]? = some (t, ix) := by cases po <;> exact ⟨_, _, by assumption⟩
  obtain ⟨a, hx, hs⟩ := tget hd ht
  refine ⟨_, rfl, p, _, dx, _, _, rfl, hp, T.k_Reader, T.na_Reader_tokens, rf_tokens _ _ _, ?_⟩
  refine ⟨_, rfl, p, _, dx, _, _, rfl, hp, T.k_Reader, T.na_Reader_at, rf_at _ _ _, ?_⟩
  refine ⟨l, xs, i, _, rfl, rfl, SqL.of hl, atI_nat hx, ?_⟩
  refine ⟨a, _, rfl, hs, rfl, ?_⟩
  refine ⟨_, _, rfl, _, _, rfl, _, _, rfl, rfl, ?_⟩
  refine ⟨_, rfl, (by show 2 ≤ sizeLine; decide), fun u hu => ?_⟩
  have s1 : Same H (upd H u (.tup [V.str "number", V.str "text"])) := same_upd hu _
  have R1 := R.same s1
  have b1 : But p H (upd H u (.tup [V.str "number", V.str "text"])) := But.of s1
  have ks := kinds3 t
  have iu : SqT K (upd H u (.tup [V.str "number", V.str "text"])) u [V.str "number", V.str "text"] := SqT.of upd_same
  generalize upd H u (.tup [V.str "number", V.str "text"]) = H1 at s1 R1 b1 iu ⊢
  obtain ⟨dx1, xs1, hp1, hl1, hd1⟩ := id R1
  refine ⟨u, _, rfl, .inr iu, rfl, rfl, _, rfl, ?_⟩
  cases po with
  | num h0 =>
    cases ht.symm.trans h0
    rw [ks]
    refine iteT ?_
    refine ⟨_, rfl, p, RC K, dx1, _, _, rfl, hp1, T.k_Reader, T.na_Reader_at, rf_at _ _ _, _, _, rfl, rfl, dx1, _, hp1, (by show 3 < 1000; decide), ?_⟩
    refine ⟨_, rfl, _, rfl, (by show 2 ≤ sizeLine; decide), fun u2 hu2 => ?_⟩
    refine q _ _ ?_ (Rdr.same (Rdr.at1 hp1 hl1 hd1) (same_upd hu2 _)) (dp_new hu2 (.cons (.str _) (.cons (.int _) .nil)))
    exact (But.trans b1 (but_upd _)).trans (But.of (same_upd hu2 _))
  | txt h0 =>
    cases ht.symm.trans h0
    rw [ks]
    refine iteT ?_
    refine ⟨_, rfl, p, RC K, dx1, _, _, rfl, hp1, T.k_Reader, T.na_Reader_at, rf_at _ _ _, _, _, rfl, rfl, dx1, _, hp1, (by show 3 < 1000; decide), ?_⟩
    refine ⟨_, rfl, _, rfl, (by show 2 ≤ sizeLine; decide), fun u2 hu2 => ?_⟩
    refine q _ _ ?_ (Rdr.same (Rdr.at1 hp1 hl1 hd1) (same_upd hu2 _)) (dp_new hu2 (.cons (.str _) (.cons (.str _) .nil)))
    exact (But.trans b1 (but_upd _)).trans (But.of (same_upd hu2 _))
  | par h0 hn hc h2 =>
    cases ht.symm.trans h0
    rw [ks]
    refine iteF ?_
    refine ⟨_, rfl, p, dx1, _, rfl, hp1, rf_no _ _ _ (by decide +kernel) (by decide +kernel) (by decide +kernel), p, l, _, _, i, n, _, ix, rfl, R1, ht, fun _ H2 b2 R2 => ?_, fun z => ?_⟩
    · refine ⟨_, rfl, iteT ?_⟩
      obtain ⟨dx2, xs2, hp2, hl2, hd2⟩ := id R2
      refine ⟨_, rfl, p, dx2, _, rfl, hp2, rf_no _ _ _ (by decide +kernel) (by decide +kernel) (by decide +kernel), p, l, _, n, rfl, R2, hn, fun H3 b3 R3 => ?_⟩
      obtain ⟨dx3, xs3, hp3, hl3, hd3⟩ := id R3
      refine ⟨_, rfl, p, dx3, _, rfl, hp3, rf_no _ _ _ (by decide +kernel) (by decide +kernel) (by decide +kernel), p, l, _, _, _, _, _, rfl, R3, hc, fun v4 H4 b4 R4 d4 => ?_⟩
      obtain ⟨dx4, xs4, hp4, hl4, hd4⟩ := id R4
      refine ⟨_, rfl, p, dx4, _, rfl, hp4, rf_no _ _ _ (by decide +kernel) (by decide +kernel) (by decide +kernel), p, l, _, _, _, _, _, _, rfl, R4, h2, isSign _ _ S_41, fun H5 b5 R5 => ?_⟩
      obtain ⟨dx5, xs5, hp5, hl5, hd5⟩ := id R5
      refine ⟨_, rfl, p, RC K, dx5, _, _, rfl, hp5, T.k_Reader, T.na_Reader_nested, rf_nested _ _ _, _, _, rfl, rfl, dx5, _, hp5, (by show 3 < 1000; decide), ?_⟩
      refine ⟨_, rfl, q _ _ ?_ (Rdr.nest1 hp5 hl5 hd5) ?_⟩
      · exact ((((b1.trans b2).trans b3).trans b4).trans b5).trans (but_upd _)
      · exact dp_but R5.noSeq (but_upd _) (dp_but R4.noSeq b5 d4)
    · rw [isSign _ _ S_40] at z; cases z
  | var h0 hk h1 h2 =>
    cases ht.symm.trans h0
    rw [ks]
    refine iteF ?_
    refine ⟨_, rfl, p, dx1, _, rfl, hp1, rf_no _ _ _ (by decide +kernel) (by decide +kernel) (by decide +kernel), p, l, _, _, i, n, _, ix, rfl, R1, ht, fun z H2 b2 R2 => ?_, fun _ => ?_⟩
    · rw [notSign (by show ("word" : Str) ≠ "sign"; decide +kernel) _] at z; cases z
    refine ⟨_, rfl, iteF ?_⟩
    refine ⟨_, rfl, p, dx1, _, rfl, hp1, rf_no _ _ _ (by decide +kernel) (by decide +kernel) (by decide +kernel), p, l, i, n, _, ix, rfl, R1, ht, hk, fun H2 b2 R2 => ?_⟩
    obtain ⟨dx2, xs2, hp2, hl2, hd2⟩ := id R2
    refine ⟨_, rfl, p, dx2, _, rfl, hp2, rf_no _ _ _ (by decide +kernel) (by decide +kernel) (by decide +kernel), p, l, _, _, _, n, _, _, rfl, R2, h1, fun z H3 b3 R3 => ?_, fun _ => ?_⟩
    · rw [h2] at z; cases z
    refine ⟨_, rfl, iteT ?_⟩
    refine ⟨_, rfl, (by show 2 ≤ sizeLine; decide), fun u2 hu2 => ?_⟩
    exact q _ _ ((b1.trans b2).trans (But.of (same_upd hu2 _))) (R2.same (same_upd hu2 _)) (dp_new hu2 (.cons (.str _) (.cons (.str _) .nil)))
  | call h0 hk h1 hn ha hg =>
    cases ht.symm.trans h0
    rw [ks]
    refine iteF ?_
    refine ⟨_, rfl, p, dx1, _, rfl, hp1, rf_no _ _ _ (by decide +kernel) (by decide +kernel) (by decide +kernel), p, l, _, _, i, n, _, ix, rfl, R1, ht, fun z H2 b2 R2 => ?_, fun _ => ?_⟩
    · rw [notSign (by show ("word" : Str) ≠ "sign"; decide +kernel) _] at z; cases z
    refine ⟨_, rfl, iteF ?_⟩
    refine ⟨_, rfl, p, dx1, _, rfl, hp1, rf_no _ _ _ (by decide +kernel) (by decide +kernel) (by decide +kernel), p, l, i, n, _, ix, rfl, R1, ht, hk, fun H2 b2 R2 => ?_⟩
    obtain ⟨dx2, xs2, hp2, hl2, hd2⟩ := id R2
    refine ⟨_, rfl, p, dx2, _, rfl, hp2, rf_no _ _ _ (by decide +kernel) (by decide +kernel) (by decide +kernel), p, l, _, _, _, n, _, _, rfl, R2, h1, fun _ H3 b3 R3 => ?_, fun z => ?_⟩
    · refine ⟨_, rfl, iteF ?_⟩
      obtain ⟨dx3, xs3, hp3, hl3, hd3⟩ := id R3
      refine ⟨_, rfl, p, dx3, _, rfl, hp3, rf_no _ _ _ (by decide +kernel) (by decide +kernel) (by decide +kernel), p, l, _, n, rfl, R3, hn, fun H4 b4 R4 => ?_⟩
      obtain ⟨dx4, xs4, hp4, hl4, hd4⟩ := id R4
      refine ⟨_, rfl, p, dx4, _, rfl, hp4, rf_no _ _ _ (by decide +kernel) (by decide +kernel) (by decide +kernel), p, l, _, _, _, _, rfl, R4, ha, fun v5 H5 b5 R5 d5 => ?_⟩
      obtain ⟨dx5, xs5, hp5, hl5, hd5⟩ := id R5
      refine ⟨_, rfl, p, RC K, dx5, _, _, rfl, hp5, T.k_Reader, T.na_Reader_nested, rf_nested _ _ _, _, _, rfl, rfl, dx5, _, hp5, (by show 3 < 1000; decide), ?_⟩
      obtain ⟨c, hc, ec⟩ := hg
      obtain ⟨cu, hcu, rcu⟩ := T.ks_PARAMETERS _ hc
      have R6 := Rdr.nest1 hp5 hl5 hd5
      have b6 := but_upd (p := p) (H := H5) (.ins (RC K) dx5 (putF "nested" (.int (((n + 1 : Nat) : Int) - 1)) (rf l (j : Int) ((n + 1 : Nat) : Int))))
      have d6 := dp_but R5.noSeq b6 d5
      obtain ⟨ap, ys, e6, hs6, hd6⟩ := dp_tup d6
      subst e6
      refine ⟨rfl, _, rfl, _, rfl, _, _, rfl, hcu, _, rcu, _, rfl, ap, ys, rfl, .inr hs6, ?_⟩
      have el : (ys.length : Int) = c := by
        have z := dpa_len hd6
        rw [exsD_len] at z
        rw [z]
        exact ec.symm
      refine ⟨rfl, _, rfl, ?_⟩
      rw [decide_eq_true (show V.int (S _, c).2 = V.int ys.length by rw [el])]
      refine iteF ?_
      refine ⟨_, rfl, _, rfl, (by show 3 ≤ sizeLine; decide), fun u2 hu2 => ?_⟩
      exact q _ _ ((((((b1.trans b2).trans b3).trans b4).trans b5).trans b6).trans (But.of (same_upd hu2 _))) (R6.same (same_upd hu2 _)) (dp_new hu2 (.cons (.str _) (.cons (.str _) (.cons d6 .nil))))
    · rw [isSign _ _ S_40] at z; cases z
end
end Lx

set_option maxHeartbeats 4000000
namespace Lx
open PySem PySem.Spec PyProof.Rows L2 He SX Tx
theorem Rdr.butT {K : PySem.W.Frag} {H : Hp} {p l u : Addr} {ts : TL1} {i n : Nat} {ys zs : List V} (R : Rdr K H p l ts i n) (hu : H u = some (.lst ys)) (ul : u ≠ l) : Rdr K (upd H u (.lst zs)) p l ts i n := by
  obtain ⟨dx, vs, hp, hl, hd⟩ := R
  have pu : p ≠ u := fun e => by rw [e, hu] at hp; cases hp
  refine ⟨dx, vs, by rw [upd_ne pu]; exact hp, by rw [upd_ne ul.symm]; exact hl, ?_⟩
  exact dpa_butT (by rw [hu]; trivial) (but_upd _) hd (toks_to ts)
/-- what was there at first is as it was but for p and what is made since -/
theorem But.newer {p u : Addr} {H H1 : Hp} {o : HO} (b : But p H H1) (hu : H u = none) : But p H (upd H1 u o) := fun x y n e => by
  have xu : x ≠ u := fun q => by rw [q, hu] at e; cases e
  rw [upd_ne xu]
  exact b x y n e
theorem isSignF (z : List Nat) (k : Str) (h : ¬ S z = k) : (Tk.sign z).is "sign" k = false := by
  show (decide (("sign" : Str) = "sign") && decide (V.str (S z) = V.str k)) = false
  rw [decide_eq_false (fun e => h (V.str.inj e)), Bool.and_false]
theorem iteT' {c : Prop} [Decidable c] {a b : Prop} (h : c) (x : a) : if c then a else b := by
  rw [if_pos h]
  exact x
theorem iteF' {c : Bool} {a b : Prop} (h : c = false) (x : b) : if c = true then a else b := by
  rw [h]
  exact x
section
variable {P : Program} {w : World} {K : PySem.W.Frag} {mg : Str → Option Value} {base : Heap} {ts : TL1}
theorem ok_arguments0 (T : Txt w K mg) {k : Nat} (c_Reader_chain : Cal P w K mg base (k + 3) (ma K (ga K "Reader") "chain") ["self", "rank"] [] (spChain K ts k)) :
    Cal P w K mg base (k + 4) (ma K (ga K "Reader") "arguments") ["self"] [] (spArguments K ts (k + 1)) := by
  obtain ⟨fd, F⟩ := T.d_Reader_arguments
  have c_Reader_skip := ok_skip (P := P) (base := base) (ts := ts) T
  have c_Reader_need := ok_need (P := P) (base := base) (ts := ts) T
  refine cal_of F sc_Reader_arguments (bi_plain F (F.bindsN fun _ _ _ _ _ _ us hl => match us, hl with | [_], _ => rfl)) (by rintro vs H Q E ⟨p, l, i, n, e, j, rfl, _⟩; rfl) (fun cdv A outer s H vs Q E hr h => ?_)
  obtain ⟨p, l, i, n, es, j, rfl, R, pa, q⟩ := h
  obtain ⟨dx, xs, hp, hl, hd⟩ := id R
  have hr_Reader_chain := hr
  have hr_Reader_skip := hr.mono (by omega : 2 ≤ k + 3)
  have hr_Reader_need := hr.mono (by omega : 3 ≤ k + 3)
  refine ⟨_, (pss_cons (ps_set (i := 1) sc_Reader_arguments.nd rfl (Or.inl rfl) (pe_lst pa_nil))
 (pss_cons (ps_if (pt_val (pe_methC c_Reader_skip hr_Reader_skip T.k_Reader T.me_Reader_skip (pv 0) (pa_cons pe_str (pa_cons pe_str pa_nil))))
 (pss_one (ps_ret (pe_tup pa_nil)))
 pss_nil)
 (pss_cons (ps_expr (pe_bm PySem.F.plainAttrs_list PySem.F.slot_list_append PySem.F.type_list_append mt_append (pv 1) (pa_cons (pe_methC c_Reader_chain hr_Reader_chain T.k_Reader T.me_Reader_chain (pv 0) (pa_cons pe_int pa_nil)) pa_nil)))
 (pss_cons (ps_while PassesOwn.never (pt_val (pe_methC c_Reader_skip hr_Reader_skip T.k_Reader T.me_Reader_skip (pv 0) (pa_cons pe_str (pa_cons pe_str pa_nil))))
 (pss_one (ps_expr (pe_bm PySem.F.plainAttrs_list PySem.F.slot_list_append PySem.F.type_list_append mt_append (pv 1) (pa_cons (pe_methC c_Reader_chain hr_Reader_chain T.k_Reader T.me_Reader_chain (pv 0) (pa_cons pe_int pa_nil)) pa_nil)))))
 (pss_cons (ps_expr (pe_methC c_Reader_need hr_Reader_need T.k_Reader T.me_Reader_need (pv 0) (pa_cons pe_str (pa_cons pe_str pa_nil))))
 (pss_one (ps_ret (pe_callTy call_tuple_of (by rfl) T.n_tuple (by decide +kernel) (pa_cons (pv 1) pa_nil))))))))), ?_⟩
  refine ⟨(by show 0 ≤ sizeLine; decide), fun u hu => ?_⟩
  have s1 : Same H (upd H u (.lst [])) := same_upd hu _
  have R1 := R.same s1
  have b1 : But p H (upd H u (.lst [])) := But.of s1
  have iu : (upd H u (.lst [])) u = some (.lst []) := upd_same
  have ul : u ≠ l := fun e => by rw [e, hl] at hu; cases hu
  have up : u ≠ p := fun e => by rw [e, hp] at hu; cases hu
  generalize upd H u (.lst []) = H1 at s1 R1 b1 iu ⊢
  obtain ⟨dx1, xs1, hp1, hl1, hd1⟩ := id R1
  cases pa with
  | nil h0 =>
    refine ⟨_, rfl, p, dx1, _, rfl, hp1, rf_no _ _ _ (by decide +kernel) (by decide +kernel) (by decide +kernel), p, l, _, _, i, n, _, _, rfl, R1, h0, fun _ H2 b2 R2 => ?_, fun z => ?_⟩
    · refine ⟨_, rfl, iteT ?_⟩
      refine ⟨(by show 0 ≤ sizeLine; decide), fun u2 hu2 => ?_⟩
      exact q _ _ ((b1.trans b2).trans (But.of (same_upd hu2 _))) (R2.same (same_upd hu2 _)) (dp_new hu2 .nil)
    · rw [isSign _ _ S_41] at z; cases z
  | @cons _ _ _ e j1 es _ t ix h0 hz hc hs hlen =>
    refine ⟨_, rfl, p, dx1, _, rfl, hp1, rf_no _ _ _ (by decide +kernel) (by decide +kernel) (by decide +kernel), p, l, _, _, i, n, _, _, rfl, R1, h0, fun z H2 b2 R2 => ?_, fun _ => ?_⟩
    · rw [hz] at z; cases z
    refine ⟨_, rfl, iteF ?_⟩
    refine ⟨_, rfl, .inl ⟨rfl, _, SqL.of iu⟩, _, rfl, p, dx1, _, rfl, hp1, rf_no _ _ _ (by decide +kernel) (by decide +kernel) (by decide +kernel), p, l, _, _, _, _, _, rfl, R1, hc, fun v2 H2 b2 R2 d2 => ?_⟩
    have iu2 : H2 u = some (.lst []) := b2 _ _ up iu
    refine ⟨u, _, v2, rfl, rfl, iu2, (by show 0 < sizeLine; decide), ?_⟩
    refine ⟨fun m σ H' => ∃ (done rest : List Ex) (i' : Nat) (ys : List V), m = rest.length ∧ σ = start ["self", "found"] [.ref p, .ref u] ∧ But p H H' ∧ Rdr K H' p l ts i' n ∧ H' u = some (.lst ys) ∧ DpAll K H' ys (exsD done) ∧ PS ts k i' n rest j ∧ done ++ rest = e :: es, ⟨es.length, [e], es, j1, [v2], rfl, ?_, ?_, ?_, upd_same, ?_, hs, rfl⟩, ?_⟩
    · rfl
    · exact But.newer (b1.trans b2) hu
    · exact R2.butT iu2 ul
    · exact .cons (dp_butT (by rw [iu2]; trivial) (but_upd _) d2 (exD_to e)) .nil
    · rintro m σ H' ⟨done, rest, i', ys, rfl, rfl, b3, R3, iu3, d3, ps, hdone⟩
      obtain ⟨dx3, xs3, hp3, hl3, hd3⟩ := id R3
      have nt : NoTup (H' u) := by rw [iu3]; trivial
      have hle : done.length + rest.length = es.length + 1 := by rw [← List.length_append, hdone]; rfl
      have hyl : ys.length = done.length := by rw [dpa_len d3, exsD_len]
      cases ps with
      | nil h4 =>
        refine ⟨_, rfl, p, dx3, _, rfl, hp3, rf_no _ _ _ (by decide +kernel) (by decide +kernel) (by decide +kernel), p, l, _, _, _, n, _, _, rfl, R3, h4, fun z H4 b4 R4 => ?_, fun _ => ?_⟩
        · rw [isSignF _ _ (by decide +kernel)] at z; cases z
        refine ⟨_, rfl, iteF ?_⟩
        refine ⟨_, rfl, p, dx3, _, rfl, hp3, rf_no _ _ _ (by decide +kernel) (by decide +kernel) (by decide +kernel), p, l, _, _, _, n, _, _, rfl, R3, h4, isSign _ _ S_41, fun H4 b4 R4 => ?_⟩
        have iu4 : H4 u = some (.lst ys) := b4 _ _ up iu3
        refine ⟨_, rfl, u, ys, rfl, .inl ⟨SqL.of iu4, fun u2 hu2 => ?_⟩⟩
        rw [List.append_nil] at hdone
        refine q _ _ ((b3.trans b4).trans (But.of (same_upd hu2 _))) (R4.same (same_upd hu2 _)) (dp_new hu2 ?_)
        rw [← hdone]
        exact dpa_but R3.noSeq b4 d3
      | @cons _ _ _ ix4 e4 j4 rest _ h4 hc4 hs4 =>
        refine ⟨_, rfl, p, dx3, _, rfl, hp3, rf_no _ _ _ (by decide +kernel) (by decide +kernel) (by decide +kernel), p, l, _, _, _, n, _, _, rfl, R3, h4, fun _ H4 b4 R4 => ?_, fun z => ?_⟩
        · have iu4 : H4 u = some (.lst ys) := b4 _ _ up iu3
          obtain ⟨dx4, xs4, hp4, hl4, hd4⟩ := id R4
          refine ⟨_, rfl, iteT ?_⟩
          refine ⟨_, fun _ _ z => z, ?_⟩
          refine ⟨_, rfl, .inl ⟨rfl, _, SqL.of iu4⟩, _, rfl, p, dx4, _, rfl, hp4, rf_no _ _ _ (by decide +kernel) (by decide +kernel) (by decide +kernel), p, l, _, _, _, _, _, rfl, R4, hc4, fun v5 H5 b5 R5 d5 => ?_⟩
          have iu5 : H5 u = some (.lst ys) := b5 _ _ up iu4
          refine ⟨u, _, v5, rfl, rfl, iu5, ?_, ?_⟩
          · rw [hyl]
            rw [List.length_cons] at hle
            exact Nat.lt_of_lt_of_le (show done.length < 2000 by omega) (by decide : 2000 ≤ sizeLine)
          refine ⟨rest.length, Nat.lt_succ_self _, done ++ [e4], rest, j4, ys ++ [v5], rfl, rfl, But.newer ((b3.trans b4).trans b5) hu, R5.butT iu5 ul, upd_same, ?_, hs4, by rw [List.append_assoc]; exact hdone⟩
          rw [exsD_app]
          have nt5 : NoTup (H5 u) := by rw [iu5]; trivial
          exact dpa_snoc (dpa_butT nt5 (but_upd _) (dpa_but R4.noSeq b5 (dpa_but R3.noSeq b4 d3)) (exsD_to _)) (dp_butT nt5 (but_upd _) d5 (exD_to e4))
        · rw [isSign _ _ S_44] at z; cases z
theorem ok_chain0 (T : Txt w K mg) {k : Nat} (c_Reader_chain : Cal P w K mg base (k + 3) (ma K (ga K "Reader") "chain") ["self", "rank"] [] (spChain K ts k)) (c_Reader_operand : Cal P w K mg base (k + 3) (ma K (ga K "Reader") "operand") ["self"] [] (spOperand K ts k)) :
    Cal P w K mg base (k + 4) (ma K (ga K "Reader") "chain") ["self", "rank"] [] (spChain K ts (k + 1)) := by
  obtain ⟨fd, F⟩ := T.d_Reader_chain
  have c_Reader_operator := ok_operator (P := P) (base := base) (ts := ts) T
  refine cal_of F sc_Reader_chain (bi_plain F (F.bindsN fun _ _ _ _ _ _ us hl => match us, hl with | [_, _], _ => rfl)) (by rintro vs H Q E ⟨p, l, r, i, n, e, j, rfl, _⟩; rfl) (fun cdv A outer s H vs Q E hr h => ?_)
  obtain ⟨p, l, r, i, n, e, j, rfl, R, pc, q⟩ := h
  obtain ⟨dx, xs, hp, hl, hd⟩ := id R
  have hr_Reader_chain := hr
  have hr_Reader_operand := hr
  have hr_Reader_operator := hr.mono (by omega : 1 ≤ k + 3)
  refine ⟨_, (pss_cons (ps_if (pt_cmpR op_eq (pv 1) (pe_callB call_len_seq (by rfl) T.n_len PySem.boot_len (pa_cons (pe_gR T.g_RANKS) pa_nil)) (nomark _))
 (pss_one (ps_ret (pe_methC0 c_Reader_operand hr_Reader_operand T.k_Reader T.me_Reader_operand (pv 0))))
 pss_nil)
 (pss_cons (ps_set (i := 2) sc_Reader_chain.nd rfl (Or.inl rfl) (pe_methC c_Reader_chain hr_Reader_chain T.k_Reader T.me_Reader_chain (pv 0) (pa_cons (pe_op op_add (pv 1) pe_int) pa_nil)))
 (pss_cons (ps_set (i := 3) sc_Reader_chain.nd rfl (Or.inl rfl) (pe_lst pa_nil))
 (pss_cons (ps_whileW PassesOwn.never (ptw_cmp op_notN (pew_named (i := 4) sc_Reader_chain.nd rfl (Or.inl rfl) (pew_of (pe_methC c_Reader_operator hr_Reader_operator T.k_Reader T.me_Reader_operator (pv 0) (pa_cons (pv 1) pa_nil)))) pe_non (nomark _))
 (pss_cons (ps_expr (pe_bm PySem.F.plainAttrs_list PySem.F.slot_list_append PySem.F.type_list_append mt_append (pv 3) (pa_cons (pe_tup (pa_cons (pv 4) (pa_cons (pe_methC c_Reader_chain hr_Reader_chain T.k_Reader T.me_Reader_chain (pv 0) (pa_cons (pe_op op_add (pv 1) pe_int) pa_nil)) pa_nil))) pa_nil)))
 (pss_one (ps_if (pt_cmpR op_eq (pv 1) (pe_gI T.c_COMPARING) (nomark _))
 (pss_one ps_break)
 pss_nil))) pss_nil)
 (pss_one (ps_ret (pe_ifExp (pt_cmpR (op_neD hr.units) (pv 3) (pe_lst pa_nil) (nomark _)) (pe_tup (pa_cons pe_str (pa_cons (pv 1) (pa_cons (pv 2) (pa_cons (pe_callTy call_tuple_of (by rfl) T.n_tuple (by decide +kernel) (pa_cons (pv 3) pa_nil)) pa_nil))))) (pv 2)))))))), ?_⟩
  refine ⟨_, rfl, _, _, rfl, .inr (T.t_RANKS _), rfl, _, rfl, ?_⟩
  obtain ⟨hr5, po⟩ | ⟨f, j1, rs, hr5, pf, pr, e0, shp, hrl⟩ : (r = 5 ∧ PO ts k i n e j) ∨ ∃ f j1 rs, r < 5 ∧ PC ts k (r + 1) i n f j1 ∧ PR ts k r j1 n rs j ∧ (e = if rs = [] then f else .chain r f rs) ∧ SeqAt.shaped (.list (rsD rs)) = true ∧ rs.length < sizeLine := by
    cases pc with
    | opd h => exact .inl ⟨rfl, h⟩
    | one h1 h2 h3 h4 => exact .inr ⟨_, _, [], h1, h2, .nil h3 h4, (if_pos rfl).symm, rfl, by show 0 < sizeLine; decide⟩
    | many h1 h2 h3 h4 h5 => exact .inr ⟨_, _, _, h1, h2, h3, (if_neg (fun z => by cases z)).symm, h4, h5⟩
  · refine iteT' (by rw [hr5]; rfl) ?_
    exact ⟨_, rfl, p, dx, _, rfl, hp, rf_no _ _ _ (by decide +kernel) (by decide +kernel) (by decide +kernel), p, l, _, _, _, _, rfl, R, po, q⟩
  refine iteF' (decide_eq_false (fun z => by have z2 : ((r : Nat) : Int) = 5 := V.int.inj z; omega)) ?_
  refine ⟨_, rfl, p, dx, _, rfl, hp, rf_no _ _ _ (by decide +kernel) (by decide +kernel) (by decide +kernel), _, rfl, _, _, rfl, rfl, p, l, r + 1, _, _, _, _, rfl, R, pf, fun fv H1 b1 R1 df1 => ?_⟩
  refine ⟨(by show 0 ≤ sizeLine; decide), fun u hu => ?_⟩
  have s2 : Same H1 (upd H1 u (.lst [])) := same_upd hu _
  have R2 := R1.same s2
  have b2 : But p H (upd H1 u (.lst [])) := b1.trans (But.of s2)
  have iu2 : (upd H1 u (.lst [])) u = some (.lst []) := upd_same
  have df2 := dp_same s2 df1
  have ul : u ≠ l := fun e => by
    obtain ⟨_, _, _, hl1, _⟩ := R1
    rw [e, hl1] at hu
    cases hu
  have up : u ≠ p := fun e => by
    obtain ⟨_, _, hp1, _, _⟩ := R1
    rw [e, hp1] at hu
    cases hu
  have hu0 : H u = none := by
    cases hh : H u with
    | none => rfl
    | some o => exact absurd (b1 u o up hh) (by rw [hu]; intro z; cases z)
  generalize upd H1 u (.lst []) = H2 at s2 R2 b2 iu2 df2 ⊢
  refine ⟨fun m σ H' => ∃ (done rest : List (List Nat × Ex)) (i' : Nat) (ys : List V) (x : Option V), m = rest.length ∧ σ = [some (.ref p), some (.int r), some fv, some (.ref u), x] ∧ But p H H' ∧ Rdr K H' p l ts i' n ∧ H' u = some (.lst ys) ∧ DpAll K H' ys (rsD done) ∧ Dp K H' fv (exD f) ∧ PR ts k r i' n rest j ∧ done ++ rest = rs, ⟨rs.length, [], rs, j1, [], none, rfl, rfl, b2, R2, iu2, .nil, df2, pr, rfl⟩, ?_⟩
  rintro m σ H' ⟨done, rest, i', ys, x, rfl, rfl, b3, R3, iu3, d3, df3, pr3, hdone⟩
  obtain ⟨dx3, xs3, hp3, hl3, hd3⟩ := id R3
  have hle : done.length + rest.length = rs.length := by rw [← List.length_append, hdone]
  have hyl : ys.length = done.length := by rw [dpa_len d3, rsD_len]
  cases pr3 with
  | nil h4 h5 =>
    refine ⟨_, rfl, p, dx3, _, rfl, hp3, rf_no _ _ _ (by decide +kernel) (by decide +kernel) (by decide +kernel), _, rfl, p, l, _, _, n, _, _, rfl, hr5, R3, h4, fun H4 b4 => ⟨fun _ R4 => ?_, fun z hz => ?_⟩⟩
    · refine ⟨rfl, _, rfl, iteF ?_⟩
      rw [List.append_nil] at hdone
      rw [hdone] at d3
      have iu4 : H4 u = some (.lst ys) := b4 _ _ up iu3
      have d4 := dpa_but R3.noSeq b4 d3
      have df4 := dp_but R3.noSeq b4 df3
      have b34 := b3.trans b4
      by_cases hrs : rs = []
      · rw [hrs] at d4 e0
        refine ⟨_, rfl, (by show 0 ≤ sizeLine; decide), fun u2 hu2 => ⟨.list [], .list [], .lst (SqL.of ((same_upd hu2 _) _ _ iu4)) (dpa_same (same_upd hu2 _) d4), .lst (SqL.of upd_same) .nil, rfl, rfl, _, rfl, ?_⟩⟩
        refine iteF ?_
        refine ⟨_, rfl, ?_⟩
        rw [if_pos rfl] at e0
        rw [e0] at q
        exact q _ _ (b34.trans (But.of (same_upd hu2 _))) (R4.same (same_upd hu2 _)) (dp_same (same_upd hu2 _) df4)
      · rw [if_neg hrs] at e0
        obtain ⟨x0, rs0, er⟩ : ∃ x0 rs0, rs = x0 :: rs0 := by
          cases rs with
          | nil => exact absurd rfl hrs
          | cons a b => exact ⟨a, b, rfl⟩
        refine ⟨_, rfl, (by show 0 ≤ sizeLine; decide), fun u2 hu2 => ⟨.list (rsD rs), .list [], .lst (SqL.of ((same_upd hu2 _) _ _ iu4)) (dpa_same (same_upd hu2 _) d4), .lst (SqL.of upd_same) .nil, shp, rfl, _, rfl, ?_⟩⟩
        refine iteT' (by rw [er]; rfl) ?_
        refine ⟨_, rfl, _, rfl, _, rfl, u, _, rfl, .inl ⟨SqL.of ((same_upd hu2 _) _ _ iu4), fun u3 hu3 => ⟨(by show 4 ≤ sizeLine; decide), fun u4 hu4 => ?_⟩⟩⟩
        have s2 := same_upd hu2 (.lst [])
        have s3 := same_upd hu3 (.tup ys)
        rw [e0] at q
        refine q _ _ (((b34.trans (But.of s2)).trans (But.of s3)).trans (But.of (same_upd hu4 _))) (((R4.same s2).same s3).same (same_upd hu4 _)) ?_
        exact dp_new hu4 (.cons (.str _) (.cons (.int _) (.cons (dp_same s3 (dp_same s2 df4)) (.cons (dp_new hu3 (dpa_same s2 d4)) .nil))))
    · rw [h5] at hz; cases hz
  | @last _ _ _ t4 ix4 z4 e4 j4 h4 h5 h6 =>
    refine ⟨_, rfl, p, dx3, _, rfl, hp3, rf_no _ _ _ (by decide +kernel) (by decide +kernel) (by decide +kernel), _, rfl, p, l, _, _, n, _, _, rfl, hr5, R3, h4, fun H4 b4 => ⟨fun z => ?_, fun z hz R4 => ?_⟩⟩
    · rw [h5] at z; cases z
    rw [h5] at hz
    cases hz
    refine ⟨rfl, _, rfl, iteT ?_⟩
    have iu4 : H4 u = some (.lst ys) := b4 _ _ up iu3
    obtain ⟨dx4, xs4, hp4, hl4, hd4⟩ := id R4
    refine ⟨_, fun _ _ z => z, ?_⟩
    refine ⟨_, rfl, .inl ⟨rfl, _, SqL.of iu4⟩, _, rfl, _, rfl, p, dx4, _, rfl, hp4, rf_no _ _ _ (by decide +kernel) (by decide +kernel) (by decide +kernel), _, rfl, _, _, rfl, rfl, p, l, _, _, n, _, _, rfl, R4, h6, fun v5 H5 b5 R5 d5 => ?_⟩
    have iu5 : H5 u = some (.lst ys) := b5 _ _ up iu4
    refine ⟨(by show 2 ≤ sizeLine; decide), fun u6 hu6 => ?_⟩
    have s6 : Same H5 (upd H5 u6 (.tup [.str (S z4), v5])) := same_upd hu6 _
    have iu6 := s6 _ _ iu5
    have d6 : Dp K (upd H5 u6 (.tup [.str (S z4), v5])) (.ref u6) (.tuple [.str (S z4), exD e4]) := dp_new hu6 (.cons (.str _) (.cons d5 .nil))
    have df6 := dp_same s6 (dp_but R4.noSeq b5 (dp_but R3.noSeq b4 df3))
    have dd6 := dpa_same s6 (dpa_but R4.noSeq b5 (dpa_but R3.noSeq b4 d3))
    have R6 := R5.same s6
    have b6 : But p H (upd H5 u6 (.tup [.str (S z4), v5])) := ((b3.trans b4).trans b5).trans (But.of s6)
    generalize upd H5 u6 (.tup [.str (S z4), v5]) = H6 at s6 iu6 d6 df6 dd6 R6 b6 ⊢
    have nt6 : NoTup (H6 u) := by rw [iu6]; trivial
    refine ⟨u, _, .ref u6, rfl, rfl, iu6, ?_, ?_⟩
    · rw [hyl]
      simp only [List.length_cons, List.length_nil] at hle
      exact Nat.lt_of_lt_of_le (show done.length < rs.length by omega) (Nat.le_of_lt hrl)
    have R7 := R6.butT (zs := ys ++ [.ref u6]) iu6 ul
    have b7 := But.newer (o := .lst (ys ++ [.ref u6])) b6 hu0
    have iu7 : (upd H6 u (.lst (ys ++ [.ref u6]))) u = some (.lst (ys ++ [.ref u6])) := upd_same
    have df7 := dp_butT nt6 (but_upd (.lst (ys ++ [.ref u6]))) df6 (exD_to f)
    have d7 := dpa_snoc (dpa_butT nt6 (but_upd (.lst (ys ++ [.ref u6]))) dd6 (rsD_to _)) (dp_butT nt6 (but_upd _) d6 (.tup (.cons (.str _) (.cons (exD_to e4) .nil))))
    rw [← rsD_app] at d7
    generalize upd H6 u (.lst (ys ++ [.ref u6])) = H7 at R7 b7 iu7 df7 d7 ⊢
    refine ⟨_, rfl, rfl, _, rfl, iteT' rfl ?_⟩
    rw [hdone] at d7
    by_cases hrs : rs = []
    · rw [hrs] at d7 e0
      refine ⟨_, rfl, (by show 0 ≤ sizeLine; decide), fun u2 hu2 => ⟨.list [], .list [], .lst (SqL.of ((same_upd hu2 _) _ _ iu7)) (dpa_same (same_upd hu2 _) d7), .lst (SqL.of upd_same) .nil, rfl, rfl, _, rfl, ?_⟩⟩
      refine iteF ?_
      refine ⟨_, rfl, ?_⟩
      rw [if_pos rfl] at e0
      rw [e0] at q
      exact q _ _ (b7.trans (But.of (same_upd hu2 _))) (R7.same (same_upd hu2 _)) (dp_same (same_upd hu2 _) df7)
    · rw [if_neg hrs] at e0
      obtain ⟨x0, rs0, er⟩ : ∃ x0 rs0, rs = x0 :: rs0 := by
        cases rs with
        | nil => exact absurd rfl hrs
        | cons a b => exact ⟨a, b, rfl⟩
      refine ⟨_, rfl, (by show 0 ≤ sizeLine; decide), fun u2 hu2 => ⟨.list (rsD rs), .list [], .lst (SqL.of ((same_upd hu2 _) _ _ iu7)) (dpa_same (same_upd hu2 _) d7), .lst (SqL.of upd_same) .nil, shp, rfl, _, rfl, ?_⟩⟩
      refine iteT' (by rw [er]; rfl) ?_
      refine ⟨_, rfl, _, rfl, _, rfl, u, _, rfl, .inl ⟨SqL.of ((same_upd hu2 _) _ _ iu7), fun u3 hu3 => ⟨(by show 4 ≤ sizeLine; decide), fun u4 hu4 => ?_⟩⟩⟩
      have s2 := same_upd hu2 (.lst [])
      have s3 := same_upd hu3 (.tup (ys ++ [.ref u6]))
      rw [e0] at q
      refine q _ _ (((b7.trans (But.of s2)).trans (But.of s3)).trans (But.of (same_upd hu4 _))) (((R7.same s2).same s3).same (same_upd hu4 _)) ?_
      exact dp_new hu4 (.cons (.str _) (.cons (.int _) (.cons (dp_same s3 (dp_same s2 df7)) (.cons (dp_new hu3 (dpa_same s2 d7)) .nil))))
  | @cons _ _ _ _ t4 ix4 z4 e4 j4 rest _ h3 h4 h5 h6 h7 =>
    refine ⟨_, rfl, p, dx3, _, rfl, hp3, rf_no _ _ _ (by decide +kernel) (by decide +kernel) (by decide +kernel), _, rfl, p, l, _, _, n, _, _, rfl, hr5, R3, h4, fun H4 b4 => ⟨fun z => ?_, fun z hz R4 => ?_⟩⟩
    · rw [h5] at z; cases z
    rw [h5] at hz
    cases hz
    refine ⟨rfl, _, rfl, iteT ?_⟩
    have iu4 : H4 u = some (.lst ys) := b4 _ _ up iu3
    obtain ⟨dx4, xs4, hp4, hl4, hd4⟩ := id R4
    refine ⟨_, fun _ _ z => z, ?_⟩
    refine ⟨_, rfl, .inl ⟨rfl, _, SqL.of iu4⟩, _, rfl, _, rfl, p, dx4, _, rfl, hp4, rf_no _ _ _ (by decide +kernel) (by decide +kernel) (by decide +kernel), _, rfl, _, _, rfl, rfl, p, l, _, _, n, _, _, rfl, R4, h6, fun v5 H5 b5 R5 d5 => ?_⟩
    have iu5 : H5 u = some (.lst ys) := b5 _ _ up iu4
    refine ⟨(by show 2 ≤ sizeLine; decide), fun u6 hu6 => ?_⟩
    have s6 : Same H5 (upd H5 u6 (.tup [.str (S z4), v5])) := same_upd hu6 _
    have iu6 := s6 _ _ iu5
    have d6 : Dp K (upd H5 u6 (.tup [.str (S z4), v5])) (.ref u6) (.tuple [.str (S z4), exD e4]) := dp_new hu6 (.cons (.str _) (.cons d5 .nil))
    have df6 := dp_same s6 (dp_but R4.noSeq b5 (dp_but R3.noSeq b4 df3))
    have dd6 := dpa_same s6 (dpa_but R4.noSeq b5 (dpa_but R3.noSeq b4 d3))
    have R6 := R5.same s6
    have b6 : But p H (upd H5 u6 (.tup [.str (S z4), v5])) := ((b3.trans b4).trans b5).trans (But.of s6)
    generalize upd H5 u6 (.tup [.str (S z4), v5]) = H6 at s6 iu6 d6 df6 dd6 R6 b6 ⊢
    have nt6 : NoTup (H6 u) := by rw [iu6]; trivial
    refine ⟨u, _, .ref u6, rfl, rfl, iu6, ?_, ?_⟩
    · rw [hyl]
      simp only [List.length_cons, List.length_nil] at hle
      exact Nat.lt_of_lt_of_le (show done.length < rs.length by omega) (Nat.le_of_lt hrl)
    have R7 := R6.butT (zs := ys ++ [.ref u6]) iu6 ul
    have b7 := But.newer (o := .lst (ys ++ [.ref u6])) b6 hu0
    have iu7 : (upd H6 u (.lst (ys ++ [.ref u6]))) u = some (.lst (ys ++ [.ref u6])) := upd_same
    have df7 := dp_butT nt6 (but_upd (.lst (ys ++ [.ref u6]))) df6 (exD_to f)
    have d7 := dpa_snoc (dpa_butT nt6 (but_upd (.lst (ys ++ [.ref u6]))) dd6 (rsD_to _)) (dp_butT nt6 (but_upd _) d6 (.tup (.cons (.str _) (.cons (exD_to e4) .nil))))
    rw [← rsD_app] at d7
    generalize upd H6 u (.lst (ys ++ [.ref u6])) = H7 at R7 b7 iu7 df7 d7 ⊢
    refine ⟨_, rfl, rfl, _, rfl, iteF' (decide_eq_false (fun z => by have z2 : ((r : Nat) : Int) = 2 := V.int.inj z; omega)) ?_⟩
    exact ⟨_, Nat.lt_succ_self _, _, _, _, _, _, rfl, rfl, b7, R7, iu7, d7, df7, h7, by rw [List.append_assoc]; exact hdone⟩
theorem ok_exprs (T : Txt w K mg) : ∀ k : Nat, Cal P w K mg base (k + 3) (ma K (ga K "Reader") "chain") ["self", "rank"] [] (spChain K ts k) ∧ Cal P w K mg base (k + 3) (ma K (ga K "Reader") "operand") ["self"] [] (spOperand K ts k) ∧
    Cal P w K mg base (k + 3) (ma K (ga K "Reader") "arguments") ["self"] [] (spArguments K ts k)
  | 0 => by
    obtain ⟨fd1, F1⟩ := T.d_Reader_chain
    obtain ⟨fd2, F2⟩ := T.d_Reader_operand
    obtain ⟨fd3, F3⟩ := T.d_Reader_arguments
    have x1 : ∀ vs H Q E, ¬ spChain K ts 0 vs H Q E := by
      rintro vs H Q E ⟨p, l, r, i, n, e, j, _, _, z, _⟩
      cases z
    have x2 : ∀ vs H Q E, ¬ spOperand K ts 0 vs H Q E := by
      rintro vs H Q E ⟨p, l, i, n, e, j, _, _, z, _⟩
      cases z
    have x3 : ∀ vs H Q E, ¬ spArguments K ts 0 vs H Q E := by
      rintro vs H Q E ⟨p, l, i, n, e, j, _, _, z, _⟩
      cases z
    have F := F1
    have a := cal_of (P := P) (w := w) (mg := mg) (base := base) (k := 2) (sp := spChain K ts 0) F sc_Reader_chain (bi_plain F (F.bindsN fun _ _ _ _ _ _ us hl => match us, hl with | [_, _], _ => rfl)) (fun vs H Q E z => (x1 _ _ _ _ z).elim) (fun cdv A outer s H vs Q E hr z => (x1 _ _ _ _ z).elim)
    have F := F2
    have b := cal_of (P := P) (w := w) (mg := mg) (base := base) (k := 2) (sp := spOperand K ts 0) F sc_Reader_operand (bi_plain F (F.bindsN fun _ _ _ _ _ _ us hl => match us, hl with | [_], _ => rfl)) (fun vs H Q E z => (x2 _ _ _ _ z).elim) (fun cdv A outer s H vs Q E hr z => (x2 _ _ _ _ z).elim)
    have F := F3
    have c := cal_of (P := P) (w := w) (mg := mg) (base := base) (k := 2) (sp := spArguments K ts 0) F sc_Reader_arguments (bi_plain F (F.bindsN fun _ _ _ _ _ _ us hl => match us, hl with | [_], _ => rfl)) (fun vs H Q E z => (x3 _ _ _ _ z).elim) (fun cdv A outer s H vs Q E hr z => (x3 _ _ _ _ z).elim)
    exact ⟨a, b, c⟩
  | k + 1 => by
    obtain ⟨a, b, c⟩ := ok_exprs T k
    exact ⟨ok_chain0 T a b, ok_operand0 T a c, ok_arguments0 T a⟩
end
end Lx

set_option maxHeartbeats 4000000
namespace Lx
open PySem PySem.Spec PyProof.Rows L2 He SX Tx
/-! ### statements -/
inductive St where
  | set (z : List Nat) (e : Ex)
  | tell (e : Ex)
  | run (e : Ex)
  | whil (e : Ex) (b : List St)
  | each (z : List Nat) (e : Ex) (b : List St)
  | cond (e : Ex) (b o : List St)
  | att (b o : List St)
mutual
def stD : St → PyData
  | .set z e => .tuple [.str "set", .str (S z), exD e]
  | .tell e => .tuple [.str "tell", exD e]
  | .run e => .tuple [.str "do", exD e]
  | .whil e b => .tuple [.str "while", exD e, .tuple (stsD b)]
  | .each z e b => .tuple [.str "for", .str (S z), exD e, .tuple (stsD b)]
  | .cond e b o => .tuple [.str "if", exD e, .tuple (stsD b), .tuple (stsD o)]
  | .att b o => .tuple [.str "try", .tuple (stsD b), .tuple (stsD o)]
def stsD : List St → List PyData
  | [] => []
  | s :: ss => stD s :: stsD ss
end
theorem stsD_len : ∀ ss : List St, (stsD ss).length = ss.length
  | [] => rfl
  | _ :: ss => congrArg Nat.succ (stsD_len ss)
theorem stsD_app : ∀ (ss : List St) (s : St), stsD (ss ++ [s]) = stsD ss ++ [stD s]
  | [], _ => rfl
  | x :: ss, s => congrArg (stD x :: ·) (stsD_app ss s)
mutual
theorem stD_to : ∀ s : St, TO (stD s)
  | .set z e => .tup (.cons (.str _) (.cons (.str _) (.cons (exD_to e) .nil)))
  | .tell e => .tup (.cons (.str _) (.cons (exD_to e) .nil))
  | .run e => .tup (.cons (.str _) (.cons (exD_to e) .nil))
  | .whil e b => .tup (.cons (.str _) (.cons (exD_to e) (.cons (.tup (stsD_to b)) .nil)))
  | .each z e b => .tup (.cons (.str _) (.cons (.str _) (.cons (exD_to e) (.cons (.tup (stsD_to b)) .nil))))
  | .cond e b o => .tup (.cons (.str _) (.cons (exD_to e) (.cons (.tup (stsD_to b)) (.cons (.tup (stsD_to o)) .nil))))
  | .att b o => .tup (.cons (.str _) (.cons (.tup (stsD_to b)) (.cons (.tup (stsD_to o)) .nil)))
theorem stsD_to : ∀ ss : List St, TOs (stsD ss)
  | [] => .nil
  | s :: ss => .cons (stD_to s) (stsD_to ss)
end
def CMP : List Str := ["if", "while", "for", "try"]
mutual
inductive PT (ts : TL1) (kx : Nat) : Nat → Nat → Nat → St → Nat → Prop
  | set {m i n z ix ix' e j ix''} : ts[i]? = some (.word z, ix) → ¬ S z ∈ KWS → ts[i + 1]? = some (.sign [61], ix') → PC ts kx 0 (i + 2) n e j → ts[j]? = some (.sign [59], ix'') → PT ts kx (m + 1) i n (.set z e) (j + 1)
  | tell {m i n z ix e j ix'} : ts[i]? = some (.word z, ix) → S z = "tell" → PC ts kx 0 (i + 1) n e j → ts[j]? = some (.sign [59], ix') → PT ts kx (m + 1) i n (.tell e) (j + 1)
  | run {m i n t ix t' ix' e j ix''} : ts[i]? = some (t, ix) → (∀ z, t = .word z → ¬ S z ∈ KWS) → ts[i + 1]? = some (t', ix') → t'.is "sign" "=" = false → SeqAt.shaped (.tuple [.str t'.kind, t'.worth]) = true → PC ts kx 0 i n e j → ts[j]? = some (.sign [59], ix'') → PT ts kx (m + 1) i n (.run e) (j + 1)
  | comp {m i n z ix s j} : ts[i]? = some (.word z, ix) → S z ∈ CMP → PM ts kx m z (i + 1) n s j → PT ts kx (m + 1) i n s j
inductive PM (ts : TL1) (kx : Nat) : Nat → List Nat → Nat → Nat → St → Nat → Prop
  | whil {m z i n e j b j'} : S z = "while" → PC ts kx 0 i n e j → PB ts kx m j n b j' → PM ts kx (m + 1) z i n (.whil e b) j'
  | cond {m z i n e j b j' o j''} : S z = "if" → PC ts kx 0 i n e j → PB ts kx m j n b j' → PE2 ts kx m j' n o j'' → PM ts kx (m + 1) z i n (.cond e b o) j''
  | each {m z i n x ix y ix' e j b j'} : S z = "for" → ts[i]? = some (.word x, ix) → ¬ S x ∈ KWS → ts[i + 1]? = some (.word y, ix') → S y = "in" → PC ts kx 0 (i + 2) n e j → PB ts kx m j n b j' → PM ts kx (m + 1) z i n (.each x e b) j'
  | att {m z i n b j o j'} : S z = "try" → PB ts kx m i n b j → PE2 ts kx m j n o j' → PM ts kx (m + 1) z i n (.att b o) j'
inductive PB (ts : TL1) (kx : Nat) : Nat → Nat → Nat → List St → Nat → Prop
  | mk {m i n ix b j} : n < 12 → ts[i]? = some (.sign [123], ix) → PL ts kx m (i + 1) (n + 1) b j → b.length < sizeLine → PB ts kx (m + 1) i n b j
inductive PL (ts : TL1) (kx : Nat) : Nat → Nat → Nat → List St → Nat → Prop
  | nil {m i n ix} : ts[i]? = some (.sign [125], ix) → PL ts kx m i n [] (i + 1)
  | cons {m i n t ix s j ss j'} : ts[i]? = some (t, ix) → t.is "sign" "}" = false → PT ts kx m i n s j → PL ts kx m j n ss j' → PL ts kx m i n (s :: ss) j'
inductive PE2 (ts : TL1) (kx : Nat) : Nat → Nat → Nat → List St → Nat → Prop
  | none {m i n t ix} : ts[i]? = some (t, ix) → t.is "word" "else" = false → PE2 ts kx (m + 1) i n [] i
  | some {m i n z ix b j} : ts[i]? = some (.word z, ix) → S z = "else" → PB ts kx m (i + 1) n b j → PE2 ts kx (m + 1) i n b j
end
theorem eq_tk (t : Tk) : PyData.eqv (.tuple [.str t.kind, t.worth]) (.tuple [.str "sign", .str "="]) = t.is "sign" "=" := by
  cases t with
  | num n =>
    show ((("number" : Str) == "sign") && (false && true)) = (decide (("number" : Str) = "sign") && _)
    rw [(by decide +kernel : (("number" : Str) == "sign") = false), decide_eq_false (by decide +kernel : ¬ ("number" : Str) = "sign")]
    rfl
  | txt l =>
    show ((("text" : Str) == "sign") && ((S l == "=") && true)) = (decide (("text" : Str) = "sign") && _)
    rw [(by decide +kernel : (("text" : Str) == "sign") = false), decide_eq_false (by decide +kernel : ¬ ("text" : Str) = "sign")]
    rfl
  | word l =>
    show ((("word" : Str) == "sign") && ((S l == "=") && true)) = (decide (("word" : Str) = "sign") && _)
    rw [(by decide +kernel : (("word" : Str) == "sign") = false), decide_eq_false (by decide +kernel : ¬ ("word" : Str) = "sign")]
    rfl
  | sign l =>
    show ((("sign" : Str) == "sign") && ((S l == "=") && true)) = (decide (("sign" : Str) = "sign") && decide (V.str (S l) = V.str "="))
    rw [beq_self_eq_true, decide_eq_true rfl, dec_str, Bool.and_true]
    rfl
  | eof =>
    show ((("end" : Str) == "sign") && ((("" : Str) == "=") && true)) = (decide (("end" : Str) = "sign") && _)
    rw [(by decide +kernel : (("end" : Str) == "sign") = false), decide_eq_false (by decide +kernel : ¬ ("end" : Str) = "sign")]
    rfl
theorem tget2 {K : PySem.W.Frag} {H : Hp} {vs : List V} {ts : TL1} {i : Nat} {t : Tk} {ix : Nat} (hd : DpAll K H vs (ts.map fun t => tokD t.1 t.2)) (h : ts[i]? = some (t, ix)) : ∃ a v, vs[i]? = some (.ref a) ∧ SqT K H a [.str t.kind, v, .int ix] ∧ Dp K H v t.worth := by
  obtain ⟨a, h1, h2⟩ := tget hd h
  exact ⟨a, _, h1, h2, t.dp_wv⟩
theorem cmp_kws : ∀ z : Str, z ∈ CMP → z ∈ KWS := by
  intro z h
  have e : ∀ y ∈ CMP, y ∈ KWS := by decide +kernel
  exact e z h
def spStatement (K : PySem.W.Frag) (ts : TL1) (kx m : Nat) : Sp := fun vs H Q _ => ∃ (p l : Addr) (i n : Nat) (s : St) (j : Nat), vs = [.ref p] ∧ Rdr K H p l ts i n ∧ PT ts kx m i n s j ∧ RetR K H p l ts j n Q (stD s)
def spCompound (K : PySem.W.Frag) (ts : TL1) (kx m : Nat) : Sp := fun vs H Q _ => ∃ (p l : Addr) (z : List Nat) (i n : Nat) (s : St) (j : Nat), vs = [.ref p, .str (S z)] ∧ Rdr K H p l ts i n ∧ PM ts kx m z i n s j ∧ RetR K H p l ts j n Q (stD s)
section
variable {P : Program} {w : World} {K : PySem.W.Frag} {mg : Str → Option Value} {base : Heap} {ts : TL1}
theorem ok_statement0 (T : Txt w K mg) {kx m : Nat} (c_Reader_compound : Cal P w K mg base (kx + 3 + m) (ma K (ga K "Reader") "compound") ["self", "word"] [] (spCompound K ts kx m)) :
    Cal P w K mg base (kx + 3 + (m + 1)) (ma K (ga K "Reader") "statement") ["self"] [] (spStatement K ts kx (m + 1)) := by
  obtain ⟨fd, F⟩ := T.d_Reader_statement
  have c_Reader_worth := ok_worth (P := P) (base := base) (ts := ts) T
  have c_Reader_need := ok_need (P := P) (base := base) (ts := ts) T
  have c_Reader_chain := (ok_exprs (P := P) (base := base) (ts := ts) T kx).1
  refine cal_of F sc_Reader_statement (bi_plain F (F.bindsN fun _ _ _ _ _ _ us hl => match us, hl with | [_], _ => rfl)) (by rintro vs H Q E ⟨p, l, i, n, s, j, rfl, _⟩; rfl) (fun cdv A outer s H vs Q E hr h => ?_)
  obtain ⟨p, l, i, n, s, j, rfl, R, pt, q⟩ := h
  obtain ⟨dx, xs, hp, hl, hd⟩ := id R
  have hr_Reader_compound := hr
  have hr_Reader_chain := hr.mono (by omega : kx + 3 ≤ kx + 3 + m)
  have hr_Reader_worth := hr.mono (by omega : 1 ≤ kx + 3 + m)
  have hr_Reader_need := hr.mono (by omega : 3 ≤ kx + 3 + m)
  refine ⟨_, (pss_cons (ps_set (i := 1) sc_Reader_statement.nd rfl (Or.inl rfl) (pe_methC c_Reader_worth hr_Reader_worth T.k_Reader T.me_Reader_worth (pv 0) (pa_cons pe_str pa_nil)))
 (pss_cons (ps_if (pt_cmpR op_in_seq (pv 1) (pe_tup (pa_cons pe_str (pa_cons pe_str (pa_cons pe_str (pa_cons pe_str pa_nil))))) (by rfl))
 (pss_cons (ps_fldaug (pv 0) pe_int in_add)
 (pss_one (ps_ret (pe_methC c_Reader_compound hr_Reader_compound T.k_Reader T.me_Reader_compound (pv 0) (pa_cons (pv 1) pa_nil)))))
 pss_nil)
 (pss_cons (ps_if (pt_cmpR op_eq (pv 1) pe_str (nomark _))
 (pss_cons (ps_fldaug (pv 0) pe_int in_add)
 (pss_one (ps_set (i := 2) sc_Reader_statement.nd rfl (Or.inl rfl) (pe_tup (pa_cons pe_str (pa_cons (pe_methC c_Reader_chain hr_Reader_chain T.k_Reader T.me_Reader_chain (pv 0) (pa_cons pe_int pa_nil)) pa_nil))))))
 (pss_one (ps_if (pw_and (pt_cmpR op_notN (pv 1) pe_non (nomark _)) (pw_and (pt_cmpR op_notIn_seq (pv 1) (pe_gR T.g_KEYWORDS) (by rfl)) (pw_and1 (pt_cmpR (op_eqD hr.units) (pe_slice sl_tup (pe_ix ix_list (pe_fld (pv 0) rfl) (pe_op op_add (pe_fld (pv 0) rfl) pe_int) (fun _ _ => rfl)) po_none (po_some pe_int)) (pe_tup (pa_cons pe_str (pa_cons pe_str pa_nil))) (nomark _))))).pt
 (pss_cons (ps_fldaug (pv 0) pe_int in_add)
 (pss_one (ps_set (i := 2) sc_Reader_statement.nd rfl (Or.inl rfl) (pe_tup (pa_cons pe_str (pa_cons (pv 1) (pa_cons (pe_methC c_Reader_chain hr_Reader_chain T.k_Reader T.me_Reader_chain (pv 0) (pa_cons pe_int pa_nil)) pa_nil)))))))
 (pss_one (ps_set (i := 2) sc_Reader_statement.nd rfl (Or.inl rfl) (pe_tup (pa_cons pe_str (pa_cons (pe_methC c_Reader_chain hr_Reader_chain T.k_Reader T.me_Reader_chain (pv 0) (pa_cons pe_int pa_nil)) pa_nil))))))))
 (pss_cons (ps_expr (pe_methC c_Reader_need hr_Reader_need T.k_Reader T.me_Reader_need (pv 0) (pa_cons pe_str (pa_cons pe_str pa_nil))))
 (pss_one (ps_ret (pv 2))))))), ?_⟩
  obtain ⟨t, ix, ht⟩ : ∃ t ix, ts[i]? = some (t, ix) := by cases pt <;> exact ⟨_, _, by assumption⟩
  refine ⟨_, rfl, p, dx, _, rfl, hp, rf_no _ _ _ (by decide +kernel) (by decide +kernel) (by decide +kernel), p, l, _, _, _, _, _, rfl, R, ht, ?_⟩
  refine ⟨_, rfl, (by show 4 ≤ sizeLine; decide), fun u hu => ?_⟩
  have s1 : Same H (upd H u (.tup [.str "if", .str "while", .str "for", .str "try"])) := same_upd hu _
  have R1 := R.same s1
  have b1 : But p H (upd H u (.tup [.str "if", .str "while", .str "for", .str "try"])) := But.of s1
  have iu : SqT K (upd H u (.tup [.str "if", .str "while", .str "for", .str "try"])) u [.str "if", .str "while", .str "for", .str "try"] := SqT.of upd_same
  generalize upd H u (.tup [.str "if", .str "while", .str "for", .str "try"]) = H1 at s1 R1 b1 iu ⊢
  obtain ⟨dx1, xs1, hp1, hl1, hd1⟩ := id R1
  have inw : ∀ z : Str, inV (.str z) [.str "if", .str "while", .str "for", .str "try"] = decide (z ∈ CMP) := fun z => in_strs z CMP
  have nocmp : ∀ {z : List Nat}, ¬ S z ∈ KWS → ¬ S z ∈ CMP := fun {z} hz hc => hz (cmp_kws _ hc)
  cases pt with
  | @set _ _ _ z _ ix1 e j1 ix2 h0 hk h1 hc h2 =>
    cases ht.symm.trans h0
    rw [if_pos (show (Tk.word z).kind = "word" from rfl)]
    refine ⟨u, _, rfl, .inr iu, rfl, rfl, _, rfl, iteF' ((inw _).trans (decide_eq_false (nocmp hk))) ?_⟩
    refine ⟨_, rfl, rfl, _, rfl, iteF' (decide_eq_false (fun e => hk (by rw [show S z = "tell" from V.str.inj e]; decide +kernel))) ?_⟩
    refine ⟨_, rfl, rfl, _, rfl, iteT' rfl ?_⟩
    refine ⟨_, rfl, _, _, rfl, .inr (T.t_KEYWORDS _), rfl, rfl, _, rfl, ?_⟩
    have ein : inV (.str (S z)) (KWS.map V.str) = false := by rw [in_strs]; exact decide_eq_false hk
    refine (show (if (!inV (.str (S z)) (KWS.map V.str)) = true then _ else _) from ?_)
    rw [ein]
    refine iteT ?_
    obtain ⟨a1, v1, hx1, hs1, dv1⟩ := tget2 hd1 h1
    refine ⟨_, rfl, p, _, dx1, _, _, rfl, hp1, T.k_Reader, T.na_Reader_tokens, rf_tokens _ _ _, ?_⟩
    refine ⟨_, rfl, p, _, dx1, _, _, rfl, hp1, T.k_Reader, T.na_Reader_at, rf_at _ _ _, _, _, rfl, rfl, ?_⟩
    refine ⟨l, xs1, i + 1, _, rfl, rfl, SqL.of hl1, atI_nat hx1, ?_⟩
    refine ⟨_, rfl, a1, _, rfl, hs1, (by show ¬ (HT.sIx 3 0 none = 0 ∧ HT.sIx 3 3 (some 2) = 3); decide), fun u2 hu2 => ?_⟩
    have s2 := same_upd hu2 (.tup (cutV [.str (Tk.sign [61]).kind, v1, .int ix1] none (some 2)))
    have dn : Dp K (upd H1 u2 (.tup (cutV [.str (Tk.sign [61]).kind, v1, .int ix1] none (some 2)))) (.ref u2) (.tuple [.str (Tk.sign [61]).kind, (Tk.sign [61]).worth]) := dp_new (vs := [.str (Tk.sign [61]).kind, v1]) hu2 (.cons (.str _) (.cons dv1 .nil))
    refine ⟨(by show 2 ≤ sizeLine; decide), fun u3 hu3 => ?_⟩
    have s3 := same_upd hu3 (.tup [.str "sign", .str "="])
    refine ⟨.tuple [.str (Tk.sign [61]).kind, (Tk.sign [61]).worth], .tuple [.str "sign", .str "="], dp_same s3 dn, dp_new hu3 (.cons (.str _) (.cons (.str _) .nil)), (by decide +kernel), (by decide +kernel), _, rfl, ?_⟩
    have R3 := (R1.same s2).same s3
    have b3 := (b1.trans (But.of s2)).trans (But.of s3)
    generalize upd (upd H1 u2 (.tup (cutV [.str (Tk.sign [61]).kind, v1, .int ix1] none (some 2)))) u3 (.tup [.str "sign", .str "="]) = H3 at R3 b3 ⊢
    refine iteT' ((eq_tk _).trans (isSign _ _ (by decide +kernel))) ?_
    obtain ⟨dx3, xs3, hp3, hl3, hd3⟩ := id R3
    refine ⟨_, rfl, p, RC K, dx3, _, _, rfl, hp3, T.k_Reader, T.na_Reader_at, rf_at _ _ _, _, _, rfl, rfl, dx3, _, hp3, (by show 3 < 1000; decide), ?_⟩
    rw [rf_put_at]
    have R4 : Rdr K (upd H3 p (.ins (RC K) dx3 (rf l ((i : Int) + 2) n))) p l ts (i + 2) n := Rdr.put (i + 2) n hp3 hl3 hd3
    have b4 := b3.trans (but_upd (.ins (RC K) dx3 (rf l ((i : Int) + 2) n)))
    generalize upd H3 p (.ins (RC K) dx3 (rf l ((i : Int) + 2) n)) = H4 at R4 b4 ⊢
    obtain ⟨dx4, xs4, hp4, hl4, hd4⟩ := id R4
    refine ⟨_, rfl, _, rfl, p, dx4, _, rfl, hp4, rf_no _ _ _ (by decide +kernel) (by decide +kernel) (by decide +kernel), p, l, _, _, n, _, _, rfl, R4, hc, fun v5 H5 b5 R5 d5 => ?_⟩
    obtain ⟨dx5, xs5, hp5, hl5, hd5⟩ := id R5
    refine ⟨(by show 3 ≤ sizeLine; decide), fun u6 hu6 => ?_⟩
    have s6 : Same H5 (upd H5 u6 (.tup [.str "set", (Tk.word z).wv, v5])) := same_upd hu6 _
    have R6 := R5.same s6
    have d6 : Dp K (upd H5 u6 (.tup [.str "set", (Tk.word z).wv, v5])) (.ref u6) (.tuple [.str "set", .str (S z), exD e]) := dp_new hu6 (.cons (.str _) (.cons (.str _) (.cons d5 .nil)))
    have b6 : But p H (upd H5 u6 (.tup [.str "set", (Tk.word z).wv, v5])) := (b4.trans b5).trans (But.of s6)
    generalize upd H5 u6 (.tup [.str "set", (Tk.word z).wv, v5]) = H6 at s6 d6 R6 b6 ⊢
    obtain ⟨dx6, xs6, hp6, hl6, hd6⟩ := id R6
    refine ⟨_, rfl, p, dx6, _, rfl, hp6, rf_no _ _ _ (by decide +kernel) (by decide +kernel) (by decide +kernel), p, l, _, _, _, n, _, _, rfl, R6, h2, isSign _ _ (by decide +kernel), fun H7 b7 R7 => ?_⟩
    exact ⟨_, rfl, q _ _ (b6.trans b7) R7 (dp_but R6.noSeq b7 d6)⟩
  | @tell _ _ _ z _ e j1 ix2 h0 hk hc h2 =>
    cases ht.symm.trans h0
    rw [if_pos (show (Tk.word z).kind = "word" from rfl)]
    refine ⟨u, _, rfl, .inr iu, rfl, rfl, _, rfl, iteF' ((inw _).trans (decide_eq_false (by rw [hk]; decide +kernel))) ?_⟩
    refine ⟨_, rfl, rfl, _, rfl, iteT' (decide_eq_true (by show V.str (S z) = V.str "tell"; rw [hk])) ?_⟩
    refine ⟨_, rfl, p, RC K, dx1, _, _, rfl, hp1, T.k_Reader, T.na_Reader_at, rf_at _ _ _, _, _, rfl, rfl, dx1, _, hp1, (by show 3 < 1000; decide), ?_⟩
    rw [rf_put_at]
    have R4 : Rdr K (upd H1 p (.ins (RC K) dx1 (rf l ((i : Int) + 1) n))) p l ts (i + 1) n := Rdr.put (i + 1) n hp1 hl1 hd1
    have b4 := b1.trans (but_upd (.ins (RC K) dx1 (rf l ((i : Int) + 1) n)))
    generalize upd H1 p (.ins (RC K) dx1 (rf l ((i : Int) + 1) n)) = H4 at R4 b4 ⊢
    obtain ⟨dx4, xs4, hp4, hl4, hd4⟩ := id R4
    refine ⟨_, rfl, p, dx4, _, rfl, hp4, rf_no _ _ _ (by decide +kernel) (by decide +kernel) (by decide +kernel), p, l, _, _, n, _, _, rfl, R4, hc, fun v5 H5 b5 R5 d5 => ?_⟩
    obtain ⟨dx5, xs5, hp5, hl5, hd5⟩ := id R5
    refine ⟨(by show 2 ≤ sizeLine; decide), fun u6 hu6 => ?_⟩
    have s6 : Same H5 (upd H5 u6 (.tup [.str "tell", v5])) := same_upd hu6 _
    have R6 := R5.same s6
    have d6 : Dp K (upd H5 u6 (.tup [.str "tell", v5])) (.ref u6) (.tuple [.str "tell", exD e]) := dp_new hu6 (.cons (.str _) (.cons d5 .nil))
    have b6 : But p H (upd H5 u6 (.tup [.str "tell", v5])) := (b4.trans b5).trans (But.of s6)
    generalize upd H5 u6 (.tup [.str "tell", v5]) = H6 at s6 d6 R6 b6 ⊢
    obtain ⟨dx6, xs6, hp6, hl6, hd6⟩ := id R6
    refine ⟨_, rfl, p, dx6, _, rfl, hp6, rf_no _ _ _ (by decide +kernel) (by decide +kernel) (by decide +kernel), p, l, _, _, _, n, _, _, rfl, R6, h2, isSign _ _ (by decide +kernel), fun H7 b7 R7 => ?_⟩
    exact ⟨_, rfl, q _ _ (b6.trans b7) R7 (dp_but R6.noSeq b7 d6)⟩
  | @run _ _ _ t' _ t1 ix1 e j1 ix2 h0 hk h1 hz hsh hc h2 =>
    cases ht.symm.trans h0
    cases t with
    | word z =>
      have hkz := hk _ rfl
      rw [if_pos (show (Tk.word z).kind = "word" from rfl)]
      refine ⟨u, _, rfl, .inr iu, rfl, rfl, _, rfl, iteF' ((inw _).trans (decide_eq_false (nocmp hkz))) ?_⟩
      refine ⟨_, rfl, rfl, _, rfl, iteF' (decide_eq_false (fun e => hkz (by rw [show S z = "tell" from V.str.inj e]; decide +kernel))) ?_⟩
      refine ⟨_, rfl, rfl, _, rfl, iteT' rfl ?_⟩
      refine ⟨_, rfl, _, _, rfl, .inr (T.t_KEYWORDS _), rfl, rfl, _, rfl, ?_⟩
      have ein : inV (.str (S z)) (KWS.map V.str) = false := by rw [in_strs]; exact decide_eq_false hkz
      refine (show (if (!inV (.str (S z)) (KWS.map V.str)) = true then _ else _) from ?_)
      rw [ein]
      refine iteT ?_
      obtain ⟨a1, v1, hx1, hs1, dv1⟩ := tget2 hd1 h1
      refine ⟨_, rfl, p, _, dx1, _, _, rfl, hp1, T.k_Reader, T.na_Reader_tokens, rf_tokens _ _ _, ?_⟩
      refine ⟨_, rfl, p, _, dx1, _, _, rfl, hp1, T.k_Reader, T.na_Reader_at, rf_at _ _ _, _, _, rfl, rfl, ?_⟩
      refine ⟨l, xs1, i + 1, _, rfl, rfl, SqL.of hl1, atI_nat hx1, ?_⟩
      refine ⟨_, rfl, a1, _, rfl, hs1, (by show ¬ (HT.sIx 3 0 none = 0 ∧ HT.sIx 3 3 (some 2) = 3); decide), fun u2 hu2 => ?_⟩
      have s2 := same_upd hu2 (.tup (cutV [.str t1.kind, v1, .int ix1] none (some 2)))
      have dn : Dp K (upd H1 u2 (.tup (cutV [.str t1.kind, v1, .int ix1] none (some 2)))) (.ref u2) (.tuple [.str t1.kind, t1.worth]) := dp_new (vs := [.str t1.kind, v1]) hu2 (.cons (.str _) (.cons dv1 .nil))
      refine ⟨(by show 2 ≤ sizeLine; decide), fun u3 hu3 => ?_⟩
      have s3 := same_upd hu3 (.tup [.str "sign", .str "="])
      refine ⟨.tuple [.str t1.kind, t1.worth], .tuple [.str "sign", .str "="], dp_same s3 dn, dp_new hu3 (.cons (.str _) (.cons (.str _) .nil)), hsh, (by decide +kernel), _, rfl, ?_⟩
      have R3 := (R1.same s2).same s3
      have b3 := (b1.trans (But.of s2)).trans (But.of s3)
      generalize upd (upd H1 u2 (.tup (cutV [.str t1.kind, v1, .int ix1] none (some 2)))) u3 (.tup [.str "sign", .str "="]) = H3 at R3 b3 ⊢
      refine iteF' ((eq_tk _).trans hz) ?_
      have R4 := R3
      have b4 := b3
      obtain ⟨dx4, xs4, hp4, hl4, hd4⟩ := id R4
      refine ⟨_, rfl, p, dx4, _, rfl, hp4, rf_no _ _ _ (by decide +kernel) (by decide +kernel) (by decide +kernel), p, l, _, _, n, _, _, rfl, R4, hc, fun v5 H5 b5 R5 d5 => ?_⟩
      obtain ⟨dx5, xs5, hp5, hl5, hd5⟩ := id R5
      refine ⟨(by show 2 ≤ sizeLine; decide), fun u6 hu6 => ?_⟩
      have s6 : Same H5 (upd H5 u6 (.tup [.str "do", v5])) := same_upd hu6 _
      have R6 := R5.same s6
      have d6 : Dp K (upd H5 u6 (.tup [.str "do", v5])) (.ref u6) (.tuple [.str "do", exD e]) := dp_new hu6 (.cons (.str _) (.cons d5 .nil))
      have b6 : But p H (upd H5 u6 (.tup [.str "do", v5])) := (b4.trans b5).trans (But.of s6)
      generalize upd H5 u6 (.tup [.str "do", v5]) = H6 at s6 d6 R6 b6 ⊢
      obtain ⟨dx6, xs6, hp6, hl6, hd6⟩ := id R6
      refine ⟨_, rfl, p, dx6, _, rfl, hp6, rf_no _ _ _ (by decide +kernel) (by decide +kernel) (by decide +kernel), p, l, _, _, _, n, _, _, rfl, R6, h2, isSign _ _ (by decide +kernel), fun H7 b7 R7 => ?_⟩
      exact ⟨_, rfl, q _ _ (b6.trans b7) R7 (dp_but R6.noSeq b7 d6)⟩
    | num z =>
      rw [if_neg (show ¬ (Tk.num z).kind = "word" from (by show ¬ ("number" : Str) = "word"; decide +kernel))]
      refine ⟨u, _, rfl, .inr iu, rfl, rfl, _, rfl, iteF' (by decide +kernel) ?_⟩
      refine ⟨_, rfl, rfl, _, rfl, iteF' (decide_eq_false (fun e => by cases e)) ?_⟩
      refine ⟨_, rfl, rfl, _, rfl, iteF' rfl ?_⟩
      have R4 := R1
      have b4 := b1
      obtain ⟨dx4, xs4, hp4, hl4, hd4⟩ := id R4
      refine ⟨_, rfl, p, dx4, _, rfl, hp4, rf_no _ _ _ (by decide +kernel) (by decide +kernel) (by decide +kernel), p, l, _, _, n, _, _, rfl, R4, hc, fun v5 H5 b5 R5 d5 => ?_⟩
      obtain ⟨dx5, xs5, hp5, hl5, hd5⟩ := id R5
      refine ⟨(by show 2 ≤ sizeLine; decide), fun u6 hu6 => ?_⟩
      have s6 : Same H5 (upd H5 u6 (.tup [.str "do", v5])) := same_upd hu6 _
      have R6 := R5.same s6
      have d6 : Dp K (upd H5 u6 (.tup [.str "do", v5])) (.ref u6) (.tuple [.str "do", exD e]) := dp_new hu6 (.cons (.str _) (.cons d5 .nil))
      have b6 : But p H (upd H5 u6 (.tup [.str "do", v5])) := (b4.trans b5).trans (But.of s6)
      generalize upd H5 u6 (.tup [.str "do", v5]) = H6 at s6 d6 R6 b6 ⊢
      obtain ⟨dx6, xs6, hp6, hl6, hd6⟩ := id R6
      refine ⟨_, rfl, p, dx6, _, rfl, hp6, rf_no _ _ _ (by decide +kernel) (by decide +kernel) (by decide +kernel), p, l, _, _, _, n, _, _, rfl, R6, h2, isSign _ _ (by decide +kernel), fun H7 b7 R7 => ?_⟩
      exact ⟨_, rfl, q _ _ (b6.trans b7) R7 (dp_but R6.noSeq b7 d6)⟩
    | txt z =>
      rw [if_neg (show ¬ (Tk.txt z).kind = "word" from (by show ¬ ("text" : Str) = "word"; decide +kernel))]
      refine ⟨u, _, rfl, .inr iu, rfl, rfl, _, rfl, iteF' (by decide +kernel) ?_⟩
      refine ⟨_, rfl, rfl, _, rfl, iteF' (decide_eq_false (fun e => by cases e)) ?_⟩
      refine ⟨_, rfl, rfl, _, rfl, iteF' rfl ?_⟩
      have R4 := R1
      have b4 := b1
      obtain ⟨dx4, xs4, hp4, hl4, hd4⟩ := id R4
      refine ⟨_, rfl, p, dx4, _, rfl, hp4, rf_no _ _ _ (by decide +kernel) (by decide +kernel) (by decide +kernel), p, l, _, _, n, _, _, rfl, R4, hc, fun v5 H5 b5 R5 d5 => ?_⟩
      obtain ⟨dx5, xs5, hp5, hl5, hd5⟩ := id R5
      refine ⟨(by show 2 ≤ sizeLine; decide), fun u6 hu6 => ?_⟩
      have s6 : Same H5 (upd H5 u6 (.tup [.str "do", v5])) := same_upd hu6 _
      have R6 := R5.same s6
      have d6 : Dp K (upd H5 u6 (.tup [.str "do", v5])) (.ref u6) (.tuple [.str "do", exD e]) := dp_new hu6 (.cons (.str _) (.cons d5 .nil))
      have b6 : But p H (upd H5 u6 (.tup [.str "do", v5])) := (b4.trans b5).trans (But.of s6)
      generalize upd H5 u6 (.tup [.str "do", v5]) = H6 at s6 d6 R6 b6 ⊢
      obtain ⟨dx6, xs6, hp6, hl6, hd6⟩ := id R6
      refine ⟨_, rfl, p, dx6, _, rfl, hp6, rf_no _ _ _ (by decide +kernel) (by decide +kernel) (by decide +kernel), p, l, _, _, _, n, _, _, rfl, R6, h2, isSign _ _ (by decide +kernel), fun H7 b7 R7 => ?_⟩
      exact ⟨_, rfl, q _ _ (b6.trans b7) R7 (dp_but R6.noSeq b7 d6)⟩
    | sign z =>
      rw [if_neg (show ¬ (Tk.sign z).kind = "word" from (by show ¬ ("sign" : Str) = "word"; decide +kernel))]
      refine ⟨u, _, rfl, .inr iu, rfl, rfl, _, rfl, iteF' (by decide +kernel) ?_⟩
      refine ⟨_, rfl, rfl, _, rfl, iteF' (decide_eq_false (fun e => by cases e)) ?_⟩
      refine ⟨_, rfl, rfl, _, rfl, iteF' rfl ?_⟩
      have R4 := R1
      have b4 := b1
      obtain ⟨dx4, xs4, hp4, hl4, hd4⟩ := id R4
      refine ⟨_, rfl, p, dx4, _, rfl, hp4, rf_no _ _ _ (by decide +kernel) (by decide +kernel) (by decide +kernel), p, l, _, _, n, _, _, rfl, R4, hc, fun v5 H5 b5 R5 d5 => ?_⟩
      obtain ⟨dx5, xs5, hp5, hl5, hd5⟩ := id R5
      refine ⟨(by show 2 ≤ sizeLine; decide), fun u6 hu6 => ?_⟩
      have s6 : Same H5 (upd H5 u6 (.tup [.str "do", v5])) := same_upd hu6 _
      have R6 := R5.same s6
      have d6 : Dp K (upd H5 u6 (.tup [.str "do", v5])) (.ref u6) (.tuple [.str "do", exD e]) := dp_new hu6 (.cons (.str _) (.cons d5 .nil))
      have b6 : But p H (upd H5 u6 (.tup [.str "do", v5])) := (b4.trans b5).trans (But.of s6)
      generalize upd H5 u6 (.tup [.str "do", v5]) = H6 at s6 d6 R6 b6 ⊢
      obtain ⟨dx6, xs6, hp6, hl6, hd6⟩ := id R6
      refine ⟨_, rfl, p, dx6, _, rfl, hp6, rf_no _ _ _ (by decide +kernel) (by decide +kernel) (by decide +kernel), p, l, _, _, _, n, _, _, rfl, R6, h2, isSign _ _ (by decide +kernel), fun H7 b7 R7 => ?_⟩
      exact ⟨_, rfl, q _ _ (b6.trans b7) R7 (dp_but R6.noSeq b7 d6)⟩
    | eof =>
      rw [if_neg (show ¬ (Tk.eof).kind = "word" from (by show ¬ ("end" : Str) = "word"; decide +kernel))]
      refine ⟨u, _, rfl, .inr iu, rfl, rfl, _, rfl, iteF' (by decide +kernel) ?_⟩
      refine ⟨_, rfl, rfl, _, rfl, iteF' (decide_eq_false (fun e => by cases e)) ?_⟩
      refine ⟨_, rfl, rfl, _, rfl, iteF' rfl ?_⟩
      have R4 := R1
      have b4 := b1
      obtain ⟨dx4, xs4, hp4, hl4, hd4⟩ := id R4
      refine ⟨_, rfl, p, dx4, _, rfl, hp4, rf_no _ _ _ (by decide +kernel) (by decide +kernel) (by decide +kernel), p, l, _, _, n, _, _, rfl, R4, hc, fun v5 H5 b5 R5 d5 => ?_⟩
      obtain ⟨dx5, xs5, hp5, hl5, hd5⟩ := id R5
      refine ⟨(by show 2 ≤ sizeLine; decide), fun u6 hu6 => ?_⟩
      have s6 : Same H5 (upd H5 u6 (.tup [.str "do", v5])) := same_upd hu6 _
      have R6 := R5.same s6
      have d6 : Dp K (upd H5 u6 (.tup [.str "do", v5])) (.ref u6) (.tuple [.str "do", exD e]) := dp_new hu6 (.cons (.str _) (.cons d5 .nil))
      have b6 : But p H (upd H5 u6 (.tup [.str "do", v5])) := (b4.trans b5).trans (But.of s6)
      generalize upd H5 u6 (.tup [.str "do", v5]) = H6 at s6 d6 R6 b6 ⊢
      obtain ⟨dx6, xs6, hp6, hl6, hd6⟩ := id R6
      refine ⟨_, rfl, p, dx6, _, rfl, hp6, rf_no _ _ _ (by decide +kernel) (by decide +kernel) (by decide +kernel), p, l, _, _, _, n, _, _, rfl, R6, h2, isSign _ _ (by decide +kernel), fun H7 b7 R7 => ?_⟩
      exact ⟨_, rfl, q _ _ (b6.trans b7) R7 (dp_but R6.noSeq b7 d6)⟩
  | @comp _ _ _ z _ _ _ h0 hk hm =>
    cases ht.symm.trans h0
    rw [if_pos (show (Tk.word z).kind = "word" from rfl)]
    refine ⟨u, _, rfl, .inr iu, rfl, rfl, _, rfl, iteT' ((inw _).trans (decide_eq_true hk)) ?_⟩
    refine ⟨_, rfl, p, RC K, dx1, _, _, rfl, hp1, T.k_Reader, T.na_Reader_at, rf_at _ _ _, _, _, rfl, rfl, dx1, _, hp1, (by show 3 < 1000; decide), ?_⟩
    rw [rf_put_at]
    have R4 : Rdr K (upd H1 p (.ins (RC K) dx1 (rf l ((i : Int) + 1) n))) p l ts (i + 1) n := Rdr.put (i + 1) n hp1 hl1 hd1
    have b4 := b1.trans (but_upd (.ins (RC K) dx1 (rf l ((i : Int) + 1) n)))
    generalize upd H1 p (.ins (RC K) dx1 (rf l ((i : Int) + 1) n)) = H4 at R4 b4 ⊢
    obtain ⟨dx4, xs4, hp4, hl4, hd4⟩ := id R4
    exact ⟨_, rfl, p, dx4, _, rfl, hp4, rf_no _ _ _ (by decide +kernel) (by decide +kernel) (by decide +kernel), _, rfl, p, l, _, _, n, _, _, rfl, R4, hm, q.mk b4⟩
end
end Lx

set_option maxHeartbeats 4000000
namespace Lx
open PySem PySem.Spec PyProof.Rows L2 He SX Tx
section
variable {P : Program} {w : World} {K : PySem.W.Frag} {mg : Str → Option Value} {base : Heap}
theorem pf2 (u : Addr) : putF "at" (V.int 0) (putF "tokens" (V.ref u) []) = ([("tokens", V.ref u), ("at", V.int 0)] : List (Str × V)) := by
  show putF "at" (V.int 0) ([("tokens", V.ref u)] : List (Str × V)) = _
  rw [pf_miss s_ta]
  rfl
theorem rf_init (u : Addr) : putF "nested" (V.int 0) (putF "at" (V.int 0) (putF "tokens" (V.ref u) [])) = rf u 0 0 := by
  rw [pf2, pf_miss s_tn, pf_miss s_an]
  rfl
/-- the tokens of a text with their end -/
def allT (l : List Nat) (ts : TL1) : TL1 := ts ++ [(Tk.eof, l.length)]
def spReaderInit (K : PySem.W.Frag) : Sp := fun vs H Q _ => ∃ (p dx : Addr) (l : List Nat) (ts : TL1), vs = [.ref p, .str (S l)] ∧ H p = some (.ins (RC K) dx []) ∧ l.length ≤ 2000 ∧ Lexed l (runEnd l BLK 0) ts ∧ ∀ q H', But p H H' → Rdr K H' p q (allT l ts) 0 0 → Q .non H'
theorem ok_reader_init (T : Txt w K mg) : Cal P w K mg base 8 (ma K (ga K "Reader") "__init__") ["self", "text"] [] (spReaderInit K) := by
  obtain ⟨fd, F⟩ := T.d_Reader___init__
  have c_tokens_of := ok_tokens_of (P := P) (base := base) T
  refine cal_of F sc_Reader___init__ (bi_plain F (F.bindsN fun _ _ _ _ _ _ us hl => match us, hl with | [_, _], _ => rfl)) (by rintro vs H Q E ⟨p, dx, l, ts, rfl, _⟩; rfl) (fun cdv A outer s H vs Q E hr h => ?_)
  obtain ⟨p, dx, l, ts, rfl, hp, hl, hL, q⟩ := h
  have hr_tokens_of := hr
  refine ⟨_, (pss_cons (ps_fld (pv 0) (pe_listC c_tokens_of hr_tokens_of T.g_tokens_of T.n_list (pa_cons (pv 1) pa_nil)) rfl)
 (pss_cons (ps_fld (pv 0) pe_int rfl)
 (pss_one (ps_fld (pv 0) pe_int rfl)))), ?_⟩
  refine ⟨_, rfl, l, ts, rfl, hl, hL, fun out H1 s1 d1 u hu => ?_⟩
  have s2 := s1.trans (same_upd hu (.lst out))
  have hp2 := s2 _ _ hp
  have iu : (upd H1 u (.lst out)) u = some (.lst out) := upd_same
  have d2 := dpa_same (same_upd hu (.lst out)) d1
  have up : u ≠ p := fun e => by rw [e, s1 _ _ hp] at hu; cases hu
  generalize upd H1 u (.lst out) = H2 at s2 hp2 iu d2 ⊢
  refine ⟨_, rfl, p, RC K, dx, _, rfl, hp2, T.k_Reader, T.na_Reader_tokens, (by show 0 < 1000; decide), ?_⟩
  refine ⟨_, rfl, p, RC K, dx, _, rfl, upd_same, T.k_Reader, T.na_Reader_at, (by show 1 < 1000; decide), ?_⟩
  refine ⟨_, rfl, p, RC K, dx, _, rfl, upd_same, T.k_Reader, T.na_Reader_nested, ?_, ?_⟩
  · rw [pf2]; show 2 < 1000; decide
  rw [rf_init, upd_upd, upd_upd]
  have ns : NoSeq (H2 p) := by rw [hp2]; trivial
  refine q u _ ((But.of s2).trans (but_upd _)) ⟨dx, out, upd_same, by rw [upd_ne up]; exact iu, ?_⟩
  have e : toksD l ts = (allT l ts).map fun t => tokD t.1 t.2 := by
    unfold toksD allT
    rw [List.map_append]
    rfl
  rw [← e]
  exact dpa_but ns (but_upd _) d2
/-- a script of these statements -/
def Scr (K : PySem.W.Frag) (H : Hp) (v : V) (ds : List PyData) : Prop := ∃ p dx a vs, v = .ref p ∧ H p = some (.ins (ga K "Script") dx [("statements", .ref a)]) ∧ SqT K H a vs ∧ DpAll K H vs ds
def spScriptInit (K : PySem.W.Frag) : Sp := fun vs H Q _ => ∃ (p dx a : Addr) (xs : List V), vs = [.ref p, .ref a] ∧ H p = some (.ins (ga K "Script") dx []) ∧ SqT K H a xs ∧ Q .non (upd H p (.ins (ga K "Script") dx [("statements", .ref a)]))
theorem script_body (T : Txt w K mg) (cdv : Value) (A : Around) (outer : List Env) (s : Shared) (H : Hp) (vs : List V) (Q : VK) (E : XK) (h : spScriptInit K vs H Q E) :
    ∃ t, PSs (cxOf CX0 P w K mg base ["self", "statements"] "Script.__init__" (defScope s_Script___init__) (ma K (ga K "Script") "__init__") cdv A outer s H E).nox (defBody s_Script___init__) t ∧ t { nx := fun _ H' => Q .non H', rt := Q } (start ["self", "statements"] vs) H := by
  obtain ⟨p, dx, a, xs, rfl, hp, hs, q⟩ := h
  refine ⟨_, (pss_one (ps_fld (pv 0) (pe_callTy call_tuple_of (by rfl) T.n_tuple (by decide +kernel) (pa_cons (pv 1) pa_nil)) rfl)), ?_⟩
  refine ⟨_, rfl, a, xs, rfl, .inr ⟨hs, ?_⟩⟩
  exact ⟨_, rfl, p, _, dx, _, rfl, hp, T.k_Script, T.na_Script_statements, (by show 0 < 1000; decide), q⟩
theorem ok_script_init (T : Txt w K mg) : Cal P w K mg base 1 (ma K (ga K "Script") "__init__") ["self", "statements"] [] (spScriptInit K) := by
  obtain ⟨fd, F⟩ := T.d_Script___init__
  exact cal_of F sc_Script___init__ (F.binds1 2 1 (by simp) rfl (fun _ _ _ _ _ _ _ us its hl hi => match us, its, hl, hi with | [_, _], [_], _, _ => ⟨_, rfl, rfl⟩)) (by rintro vs H Q E ⟨p, dx, a, xs, rfl, _⟩; rfl) (fun cdv A outer s H vs Q E hr h => script_body T cdv A outer s H vs Q E h)
theorem ok_script_init0 (T : Txt w K mg) : Cal P w K mg base 1 (ma K (ga K "Script") "__init__") ["self", "statements"] [.ref (dflAt ("Script", some "__init__") 0 K)] (spScriptInit K) := by
  obtain ⟨fd, F⟩ := T.d_Script___init__
  exact cal_of F sc_Script___init__ (F.binds1 1 0 (by simp) rfl (fun _ _ _ _ _ _ _ us its hl hi => match us, its, hl, hi with | [_], [_], _, _ => ⟨_, rfl, rfl⟩)) (by rintro vs H Q E ⟨p, dx, a, xs, rfl, _⟩; rfl) (fun cdv A outer s H vs Q E hr h => script_body T cdv A outer s H vs Q E h)
theorem Same.newer {p : Addr} {H H1 H2 : Hp} (s : Same H H1) (hp : H p = none) (b : But p H1 H2) : Same H H2 := fun x o e => by
  have xp : x ≠ p := fun q => by rw [q, hp] at e; cases e
  exact b x o xp (s x o e)
inductive PTop (ts : TL1) (kx m : Nat) : Nat → List St → Prop
  | nil {i ix} : ts[i]? = some (.eof, ix) → PTop ts kx m i []
  | cons {i t ix s j ss} : ts[i]? = some (t, ix) → ¬ t.kind = ("end" : Str) → PT ts kx m i 0 s j → PTop ts kx m j ss → PTop ts kx m i (s :: ss)
def spRead (K : PySem.W.Frag) (kx m : Nat) : Sp := fun vs H Q _ => ∃ (l : List Nat) (ts : TL1) (ss : List St), vs = [.str (S l)] ∧ l.length ≤ 2000 ∧ Lexed l (runEnd l BLK 0) ts ∧ ss.length ≤ 1000 ∧ PTop (allT l ts) kx m 0 ss ∧ ∀ v H', Same H H' → Scr K H' v (stsD ss) → Q v H'
theorem ok_read0 (T : Txt w K mg) {kx m : Nat} (c_Reader_statement : ∀ ts : TL1, Cal P w K mg base (kx + 3 + m) (ma K (ga K "Reader") "statement") ["self"] [] (spStatement K ts kx m)) :
    Cal P w K mg base (kx + m + 13) (Hk.smA K "Script" "read") ["text"] [] (spRead K kx m) := by
  obtain ⟨fd, F⟩ := T.d_Script_read
  have c_Reader___init__ := ok_reader_init (P := P) (base := base) T
  have c_Script___init__ := ok_script_init (P := P) (base := base) T
  refine cal_of F sc_Script_read (bi_plain F (F.bindsN fun _ _ _ _ _ _ us hl => match us, hl with | [_], _ => rfl)) (by rintro vs H Q E ⟨l, ts, ss, rfl, _⟩; rfl) (fun cdv A outer s H vs Q E hr h => ?_)
  obtain ⟨l, ts, ss, rfl, hl, hL, hlen, pt, q⟩ := h
  have c_Reader_statement := c_Reader_statement (allT l ts)
  have c_Reader_worth := ok_worth (P := P) (base := base) (ts := allT l ts) T
  have hr_Reader___init__ := hr.mono (by omega : 9 ≤ kx + m + 12)
  have hr_Script___init__ := hr.mono (by omega : 2 ≤ kx + m + 12)
  have hr_Reader_statement := hr.mono (by omega : kx + 3 + m ≤ kx + m + 12)
  have hr_Reader_worth := hr.mono (by omega : 1 ≤ kx + m + 12)
  refine ⟨_, (pss_cons (ps_set (i := 1) sc_Script_read.nd rfl (Or.inl rfl) (pe_makeC c_Reader___init__ hr_Reader___init__ T.m_Reader T.g_Reader (pa_cons (pv 0) pa_nil)))
 (pss_cons (ps_set (i := 2) sc_Script_read.nd rfl (Or.inl rfl) (pe_lst pa_nil))
 (pss_cons (ps_while PassesOwn.never (pt_cmpR op_isN (pe_methC c_Reader_worth hr_Reader_worth T.k_Reader T.me_Reader_worth (pv 1) (pa_cons pe_str pa_nil)) pe_non (nomark _))
 (pss_one (ps_expr (pe_bm PySem.F.plainAttrs_list PySem.F.slot_list_append PySem.F.type_list_append mt_append (pv 2) (pa_cons (pe_methC0 c_Reader_statement hr_Reader_statement T.k_Reader T.me_Reader_statement (pv 1)) pa_nil)))))
 (pss_one (ps_ret (pe_makeC c_Script___init__ hr_Script___init__ T.m_Script T.g_Script (pa_cons (pe_callTy call_tuple_of (by rfl) T.n_tuple (by decide +kernel) (pa_cons (pv 2) pa_nil)) pa_nil))))))), ?_⟩
  refine ⟨_, rfl, fun p dx hp hdx hne => ?_⟩
  have s1 : Same H (upd (upd H dx (.own p)) p (.ins (RC K) dx [])) := (same_upd hdx _).trans (same_upd (by rw [upd_ne hne.symm]; exact hp) _)
  refine ⟨p, dx, l, ts, rfl, upd_same, hl, hL, fun tl H1 b1 R1 => ⟨rfl, ?_⟩⟩
  have s2 : Same H H1 := Same.newer s1 hp b1
  obtain ⟨dx1, xs1, hp1, hl1, hd1⟩ := id R1
  refine ⟨(by show 0 ≤ sizeLine; decide), fun u hu => ?_⟩
  have s3 : Same H1 (upd H1 u (.lst [])) := same_upd hu _
  have R3 := R1.same s3
  have s23 := s2.trans s3
  have iu : (upd H1 u (.lst [])) u = some (.lst []) := upd_same
  have ul : u ≠ tl := fun e => by rw [e, hl1] at hu; cases hu
  have up : u ≠ p := fun e => by rw [e, hp1] at hu; cases hu
  have hu0 : H u = none := by
    cases hh : H u with
    | none => rfl
    | some o => exact absurd (s2 u o hh) (by rw [hu]; intro z; cases z)
  generalize upd H1 u (.lst []) = H3 at s3 R3 s23 iu ⊢
  refine ⟨fun k σ H' => ∃ (done rest : List St) (i' : Nat) (ys : List V), k = rest.length ∧ σ = [some (.str (S l)), some (.ref p), some (.ref u)] ∧ Same H H' ∧ Rdr K H' p tl (allT l ts) i' 0 ∧ H' u = some (.lst ys) ∧ DpAll K H' ys (stsD done) ∧ PTop (allT l ts) kx m i' rest ∧ done ++ rest = ss, ⟨ss.length, [], ss, 0, [], rfl, rfl, s23, R3, iu, .nil, pt, rfl⟩, ?_⟩
  rintro k σ H' ⟨done, rest, i', ys, rfl, rfl, b4, R4, iu4, d4, pt4, hdone⟩
  obtain ⟨dx4, xs4, hp4, hl4, hd4⟩ := id R4
  have hle : done.length + rest.length = ss.length := by rw [← List.length_append, hdone]
  have hyl : ys.length = done.length := by rw [dpa_len d4, stsD_len]
  cases pt4 with
  | nil h0 =>
    refine ⟨_, rfl, p, dx4, _, rfl, hp4, rf_no _ _ _ (by decide +kernel) (by decide +kernel) (by decide +kernel), p, tl, _, _, _, _, _, rfl, R4, h0, ?_⟩
    rw [if_pos (show Tk.eof.kind = "end" from rfl)]
    refine ⟨rfl, _, rfl, iteF' (decide_eq_false (fun e => by cases e)) ?_⟩
    refine ⟨_, rfl, u, ys, rfl, .inl ⟨SqL.of iu4, fun u5 hu5 => ?_⟩⟩
    rw [List.append_nil] at hdone
    rw [hdone] at d4
    have s5 := same_upd hu5 (.tup ys)
    refine fun p6 dx6 hp6 hdx6 hne6 => ⟨p6, dx6, u5, ys, rfl, upd_same, ?_, rfl, ?_⟩
    · exact sqT_same ((same_upd hdx6 _).trans (same_upd (by rw [upd_ne hne6.symm]; exact hp6) _)) (SqT.of upd_same)
    · have s6 : Same (upd H' u5 (.tup ys)) (upd (upd (upd H' u5 (.tup ys)) dx6 (.own p6)) p6 (.ins (ga K "Script") dx6 [])) := (same_upd hdx6 _).trans (same_upd (by rw [upd_ne hne6.symm]; exact hp6) _)
      have s7 := Same.newer (s5.trans s6) (by
        cases hh : H' p6 with
        | none => rfl
        | some o => exact absurd (s5 p6 o hh) (by rw [hp6]; intro z; cases z)) (but_upd (.ins (ga K "Script") dx6 [("statements", .ref u5)]))
      refine q _ _ (b4.trans s7) ⟨p6, dx6, u5, ys, rfl, upd_same, ?_, dpa_same s7 d4⟩
      have n6 : p6 ≠ u5 := fun e => by rw [e, upd_same] at hp6; cases hp6
      exact SqT.of (by rw [upd_ne n6.symm]; exact s6 _ _ upd_same)
  | @cons _ t6 ix6 s6 j6 rest h0 h1 h2 h3 =>
    refine ⟨_, rfl, p, dx4, _, rfl, hp4, rf_no _ _ _ (by decide +kernel) (by decide +kernel) (by decide +kernel), p, tl, _, _, _, _, _, rfl, R4, h0, ?_⟩
    rw [if_neg h1]
    refine ⟨rfl, _, rfl, iteT' (decide_eq_true rfl) ?_⟩
    refine ⟨_, fun _ _ z => z, ?_⟩
    refine ⟨_, rfl, .inl ⟨rfl, _, SqL.of iu4⟩, _, rfl, p, dx4, _, rfl, hp4, rf_no _ _ _ (by decide +kernel) (by decide +kernel) (by decide +kernel), p, tl, _, _, _, _, rfl, R4, h2, fun v5 H5 b5 R5 d5 => ?_⟩
    have iu5 : H5 u = some (.lst ys) := b5 _ _ up iu4
    have hp0 : H p = none := hp
    refine ⟨u, _, v5, rfl, rfl, iu5, ?_, ?_⟩
    · rw [hyl]
      simp only [List.length_cons] at hle
      exact Nat.lt_of_lt_of_le (show done.length < 2000 by omega) (by decide : 2000 ≤ sizeLine)
    have nt5 : NoTup (H5 u) := by rw [iu5]; trivial
    refine ⟨rest.length, Nat.lt_succ_self _, done ++ [s6], rest, j6, ys ++ [v5], rfl, rfl, Same.newer (Same.newer b4 hp b5) hu0 (but_upd _), R5.butT iu5 ul, upd_same, ?_, h3, by rw [List.append_assoc]; exact hdone⟩
    rw [stsD_app]
    exact dpa_snoc (dpa_butT nt5 (but_upd _) (dpa_but R4.noSeq b5 d4) (stsD_to _)) (dp_butT nt5 (but_upd _) d5 (stD_to s6))
end
end Lx

set_option maxHeartbeats 4000000
namespace L2
open PySem PySem.Spec PyProof.Rows
/-! A case ["word", x, ..] of a tuple whose first item is a text. -/
section
variable {K : PySem.W.Frag} {H : Hp} {σ : St} {D : Ends} {tb : TS} {u : TCs} {a : Addr} {n : Nat} {y z : Str}
theorem case_len {xs : List V} {t : TPats} (h : SqT K H a xs) (hn : xs.length ≠ n) (q : u (.ref a) D σ H) : cCons (mSeq K n t) tb u (.ref a) D σ H := ⟨a, xs, rfl, h, by rw [if_neg hn]; exact q⟩
theorem case_tag {r : List V} {t : TPats} (h : SqT K H a (.str z :: r)) (hz : ¬ z = y) (q : u (.ref a) D σ H) : cCons (mSeq K n (msCons (mVal rEq (tC (.str y))) t)) tb u (.ref a) D σ H := by
  refine ⟨a, _, rfl, h, ?_⟩
  by_cases hn : (V.str z :: r).length = n
  · rw [if_pos hn]
    refine ⟨_, _, rfl, rfl, _, rfl, ?_⟩
    rw [decide_eq_false (fun e => hz (V.str.inj e))]
    exact q
  · rw [if_neg hn]
    exact q
theorem case_1 {i : Nat} {v : V} (h : SqT K H a [.str y, v]) (q : tb D (σ.set i (some v)) H) : cCons (mSeq K 2 (msCons (mVal rEq (tC (.str y))) (msCons (mNm i) msNil))) tb u (.ref a) D σ H := by
  refine ⟨a, _, rfl, h, ?_⟩
  rw [if_pos (show [V.str y, v].length = 2 from rfl)]
  refine ⟨_, _, rfl, rfl, _, rfl, ?_⟩
  rw [decide_eq_true rfl]
  exact ⟨_, _, rfl, rfl, q⟩
theorem case_2 {i j : Nat} {v x : V} (h : SqT K H a [.str y, v, x]) (q : tb D ((σ.set i (some v)).set j (some x)) H) : cCons (mSeq K 3 (msCons (mVal rEq (tC (.str y))) (msCons (mNm i) (msCons (mNm j) msNil)))) tb u (.ref a) D σ H := by
  refine ⟨a, _, rfl, h, ?_⟩
  rw [if_pos (show [V.str y, v, x].length = 3 from rfl)]
  refine ⟨_, _, rfl, rfl, _, rfl, ?_⟩
  rw [decide_eq_true rfl]
  exact ⟨_, _, rfl, _, _, rfl, rfl, q⟩
theorem case_3 {i j k : Nat} {v x w : V} (h : SqT K H a [.str y, v, x, w]) (q : tb D (((σ.set i (some v)).set j (some x)).set k (some w)) H) : cCons (mSeq K 4 (msCons (mVal rEq (tC (.str y))) (msCons (mNm i) (msCons (mNm j) (msCons (mNm k) msNil))))) tb u (.ref a) D σ H := by
  refine ⟨a, _, rfl, h, ?_⟩
  rw [if_pos (show [V.str y, v, x, w].length = 4 from rfl)]
  refine ⟨_, _, rfl, rfl, _, rfl, ?_⟩
  rw [decide_eq_true rfl]
  exact ⟨_, _, rfl, _, _, rfl, _, _, rfl, rfl, q⟩
end
end L2

set_option maxHeartbeats 4000000
namespace Lx
open PySem PySem.Spec PyProof.Rows L2 He SX Tx
/-! ### expressions written -/
mutual
def wE : Ex → Nat → List Nat
  | .num n, _ => TL.numL n
  | .txt l, _ => 34 :: (l ++ [34])
  | .var l, _ => l
  | .call w ps, _ => w ++ 40 :: (TL.joinL [44, 32] (exsW ps) ++ [41])
  | .chain o f rs, r => if o < r then 40 :: (TL.joinL [32] (wE f (o + 1) :: rsW rs (o + 1)) ++ [41]) else TL.joinL [32] (wE f (o + 1) :: rsW rs (o + 1))
def exsW : List Ex → List (List Nat)
  | [] => []
  | e :: es => wE e 0 :: exsW es
def rsW : List (List Nat × Ex) → Nat → List (List Nat)
  | [], _ => []
  | (z, e) :: rs, r => (z ++ 32 :: wE e r) :: rsW rs r
end
/-- of depth below k, its numbers not too long -/
def fit : Nat → Ex → Prop
  | 0, _ => False
  | _ + 1, .num n => n.log2 < 1920
  | _ + 1, .txt _ => True
  | _ + 1, .var _ => True
  | k + 1, .call _ ps => ∀ p ∈ ps, fit k p
  | k + 1, .chain _ f rs => fit k f ∧ ∀ x ∈ rs, fit k x.2
def BIG : Nat := 1000000
theorem big_le : BIG + 1000 ≤ sizeLine := by decide
def spWritten (K : PySem.W.Frag) (k : Nat) : Sp := fun vs H Q _ => ∃ (v : V) (e : Ex) (r : Nat), vs = [v, .int r] ∧ Dp K H v (exD e) ∧ fit k e ∧ (wE e r).length ≤ BIG ∧ ∀ H', Same H H' → Q (.str (S (wE e r))) H'
theorem exsD_map : ∀ es : List Ex, exsD es = es.map exD
  | [] => rfl
  | e :: es => congrArg (exD e :: ·) (exsD_map es)
theorem exsW_map : ∀ es : List Ex, exsW es = es.map (wE · 0)
  | [] => rfl
  | e :: es => congrArg (wE e 0 :: ·) (exsW_map es)
theorem rsD_map : ∀ rs : List (List Nat × Ex), rsD rs = rs.map fun x => .tuple [.str (S x.1), exD x.2]
  | [] => rfl
  | (z, e) :: rs => congrArg (PyData.tuple [.str (S z), exD e] :: ·) (rsD_map rs)
theorem rsW_map (r : Nat) : ∀ rs : List (List Nat × Ex), rsW rs r = rs.map fun x => x.1 ++ 32 :: wE x.2 r
  | [] => rfl
  | (z, e) :: rs => congrArg ((z ++ 32 :: wE e r) :: ·) (rsW_map r rs)
theorem dpa_inv {K : PySem.W.Frag} {H : Hp} : ∀ {vs : List V} {ds : List PyData} {i : Nat} {v : V}, DpAll K H vs ds → vs[i]? = some v → ∃ d, ds[i]? = some d ∧ Dp K H v d
  | _, _, _, _, .nil, h => by cases h
  | _, _, 0, v, .cons h _, e => by
    cases e
    exact ⟨_, rfl, h⟩
  | _, _, i + 1, v, .cons _ t, e => dpa_inv (i := i) t e
/-- texts joined: no piece is longer than the whole -/
theorem joinL_len (s : List Nat) : ∀ xs : List (List Nat), (xs.map List.length).sum + xs.length * s.length ≤ (TL.joinL s xs).length + s.length
  | [] => by simp
  | [x] => by
    show x.length + 0 + 1 * s.length ≤ x.length + s.length
    omega
  | x :: y :: r => by
    have ih := joinL_len s (y :: r)
    show x.length + ((y :: r).map List.length).sum + ((y :: r).length + 1) * s.length ≤ (x ++ (s ++ TL.joinL s (y :: r))).length + s.length
    rw [List.length_append, List.length_append, Nat.add_mul, Nat.one_mul]
    omega
theorem mem_sum {x : List Nat} : ∀ {xs : List (List Nat)}, x ∈ xs → x.length ≤ (xs.map List.length).sum
  | y :: ys, h => by
    rcases List.mem_cons.mp h with e | h
    · rw [e]
      exact Nat.le_add_right _ _
    · exact Nat.le_trans (mem_sum h) (Nat.le_add_left _ _)
theorem lens_S (xs : List (List Nat)) : ((xs.map S).map (·.length)).sum = (xs.map List.length).sum := by
  rw [List.map_map]
  congr 1
/-! ### texts of parts -/
theorem js_start {ts : List TE} {σ : L2.St} {H : Hp} {Q : Str → Hp → Prop} (q : tJs ts (S []) σ H Q) : tJs ts Str.empty σ H Q := (show Str.empty = S [] by decide +kernel) ▸ q
theorem js_c {ts : List TE} {σ : L2.St} {H : Hp} {Q : Str → Hp → Prop} {z : Str} {y acc : List Nat} (hz : z = S y) (hl : (acc ++ y).length ≤ sizeLine) (q : tJs ts (S (acc ++ y)) σ H Q) : tJs (tC (.str z) :: ts) (S acc) σ H Q :=
  ⟨z, rfl, by rw [hz, S_cat, S_len]; exact hl, by rw [hz, S_cat]; exact q⟩
theorem js_v {ts : List TE} {σ : L2.St} {H : Hp} {Q : Str → Hp → Prop} {i : Nat} {y acc : List Nat} (hv : σ[i]? = some (some (.str (S y)))) (hl : (acc ++ y).length ≤ sizeLine) (q : tJs ts (S (acc ++ y)) σ H Q) : tJs (tFmt (tVar i) :: ts) (S acc) σ H Q :=
  ⟨_, hv, .inl ⟨S y, rfl, by rw [S_len]; rw [List.length_append] at hl; omega, S y, rfl, by rw [S_cat, S_len]; exact hl, by rw [S_cat]; exact q⟩⟩
section
variable {P : Program} {w : World} {K : PySem.W.Frag} {mg : Str → Option Value} {base : Heap}
theorem written_body (T : Txt w K mg) {k L : Nat} (c_written_expression : Cal P w K mg base L (ga K "written_expression") ["expression", "rank"] [] (spWritten K k)) (c_written_expression0 : Cal P w K mg base L (ga K "written_expression") ["expression", "rank"] [.int 0] (spWritten K k))
    (cdv : Value) (A : Around) (outer : List Env) (s : Shared) (H : Hp) (vs : List V) (Q : VK) (E : XK) (hr : Room L (A.deeper (envOfC "written_expression" (defScope s_written_expression) s.heap.objs.size (ga K "written_expression") cdv))) (h : spWritten K (k + 1) vs H Q E) :
    ∃ t, PSs (cxOf CX0 P w K mg base ["expression", "rank", "worth", "word", "parts", "inside", "part", "own", "rows", "sign", "operand", "found"] "written_expression" (defScope s_written_expression) (ga K "written_expression") cdv A outer s H E).nox (defBody s_written_expression) t ∧
      t { nx := fun _ H' => Q .non H', rt := Q } (start ["expression", "rank", "worth", "word", "parts", "inside", "part", "own", "rows", "sign", "operand", "found"] vs) H := by
  obtain ⟨v, e, r, rfl, hd, hf, hb, q⟩ := h
  have hr_written_expression := hr
  refine ⟨_, (pss_cons (ps_match (pv 0) (pcs_cons sc_written_expression.nd (pm_seq rfl (pms_cons (pm_val op_eq pe_str) (pms_cons (pm_name (i := 2)) pms_nil))) (pss_one (ps_ret (pe_callTy call_str_int (by rfl) T.n_str (by decide +kernel) (pa_cons (pv 2) pa_nil))))
 (pcs_cons sc_written_expression.nd (pm_seq rfl (pms_cons (pm_val op_eq pe_str) (pms_cons (pm_name (i := 2)) pms_nil))) (pss_one (ps_ret (pe_joined (PJ.cons pe_str (PJ.cons (pe_fmt (pv 2)) (PJ.cons pe_str PJ.nil))))))
 (pcs_cons sc_written_expression.nd (pm_seq rfl (pms_cons (pm_val op_eq pe_str) (pms_cons (pm_name (i := 3)) pms_nil))) (pss_one (ps_ret (pv 3)))
 (pcs_cons sc_written_expression.nd (pm_seq rfl (pms_cons (pm_val op_eq pe_str) (pms_cons (pm_name (i := 3)) (pms_cons (pm_name (i := 4)) pms_nil)))) (pss_cons (ps_set (i := 5) sc_written_expression.nd rfl (Or.inl rfl) (pe_bm PySem.F.plainAttrs_str PySem.F.slot_str_join PySem.F.type_str_join mt_join pe_str (pa_cons (pe_lc (own := [("part", 6)]) (g := gName 6) (by rfl) sc_written_expression.nd (pi_tup (pv 4)) (blkOk_by (own := [("part", 6)]) (N := ["expression", "rank", "worth", "word", "parts", "inside", "part", "own", "rows", "sign", "operand", "found"]) (sc := defScope s_written_expression) (by decide +kernel)) (fun _ _ _ _ _ => (pg_name (i := 6) sc_written_expression.nd rfl (Or.inl rfl))) (fun _ _ _ _ _ => pts_nil) (fun _ _ _ _ _ => (pe_callC c_written_expression0 hr_written_expression T.g_written_expression (pa_cons (pv 6) pa_nil)))) pa_nil)))
 (pss_one (ps_ret (pe_joined (PJ.cons (pe_fmt (pv 3)) (PJ.cons pe_str (PJ.cons (pe_fmt (pv 5)) (PJ.cons pe_str PJ.nil))))))))
 pcs_nil)))))
 (pss_cons (ps_set (i := 7) sc_written_expression.nd rfl (Or.inl rfl) (pe_ix ix_tup (pv 0) pe_int (fun _ _ => rfl)))
 (pss_cons (ps_set (i := 8) sc_written_expression.nd rfl (Or.inl rfl) (pe_lst (pa_cons (pe_callC c_written_expression hr_written_expression T.g_written_expression (pa_cons (pe_ix ix_tup (pv 0) pe_int (fun _ _ => rfl)) (pa_cons (pe_op op_add (pv 7) pe_int) pa_nil))) pa_nil)))
 (pss_cons (ps_for PassesOwn.never rfl (pi_tup (pe_ix ix_tup (pv 0) pe_int (fun _ _ => rfl))) (pg_tup rfl (pgs_cons (pg_name (i := 9) sc_written_expression.nd rfl (Or.inl rfl)) (pgs_cons (pg_name (i := 10) sc_written_expression.nd rfl (Or.inl rfl)) pgs_nil)))
 (pss_one (ps_expr (pe_bm PySem.F.plainAttrs_list PySem.F.slot_list_append PySem.F.type_list_append mt_append (pv 8) (pa_cons (pe_joined (PJ.cons (pe_fmt (pv 9)) (PJ.cons pe_str (PJ.cons (pe_fmt (pe_callC c_written_expression hr_written_expression T.g_written_expression (pa_cons (pv 10) (pa_cons (pe_op op_add (pv 7) pe_int) pa_nil)))) PJ.nil)))) pa_nil)))))
 (pss_cons (ps_set (i := 11) sc_written_expression.nd rfl (Or.inl rfl) (pe_bm PySem.F.plainAttrs_str PySem.F.slot_str_join PySem.F.type_str_join mt_join pe_str (pa_cons (pv 8) pa_nil)))
 (pss_one (ps_ret (pe_ifExp (pt_cmpR op_lt (pv 7) (pv 1) (nomark _)) (pe_joined (PJ.cons pe_str (PJ.cons (pe_fmt (pv 11)) (PJ.cons pe_str PJ.nil)))) (pv 11))))))))), ?_⟩
  refine ⟨_, rfl, ?_⟩
  obtain ⟨a, ys, rfl, hs, hv⟩ : ∃ a ys, v = .ref a ∧ SqT K H a ys ∧ ∃ ds, exD e = .tuple ds ∧ DpAll K H ys ds := by
    cases e <;> (obtain ⟨a, ys, e1, e2, e3⟩ := dp_tup hd; exact ⟨a, ys, e1, e2, _, rfl, e3⟩)
  obtain ⟨ds, hds, hv⟩ := hv
  cases e with
  | num n =>
    cases hds
    cases hv with
    | cons h1 hv =>
    cases hv with
    | cons h2 hv =>
    cases hv
    cases dp_str h1
    cases dp_int h2
    refine case_1 hs ?_
    refine ⟨_, rfl, _, rfl, hf, ?_⟩
    have z : Q (.str (S (TL.numL n))) H := q H (fun _ _ h => h)
    rw [num_S]
    exact z
  | txt l =>
    cases hds
    cases hv with
    | cons h1 hv =>
    cases hv with
    | cons h2 hv =>
    cases hv
    cases dp_str h1
    cases dp_str h2
    refine case_tag hs (by decide +kernel) ?_
    refine case_1 hs ?_
    have hb' : l.length + 2 ≤ BIG := by
      have : (wE (.txt l) r).length = l.length + 2 := by show (34 :: (l ++ [34])).length = _; simp
      omega
    have bl := big_le
    have z := q H (fun _ _ h => h)
    refine js_start (js_c (y := [34]) (by decide +kernel) (by simp; omega) (js_v (y := l) rfl (by simp; omega) (js_c (y := [34]) (by decide +kernel) (by simp; omega) ?_)))
    have e : ([] ++ [34] ++ l ++ [34] : List Nat) = 34 :: (l ++ [34]) := by simp
    show Q (.str (S ([] ++ [34] ++ l ++ [34]))) H
    rw [e]
    exact z
  | var l =>
    cases hds
    cases hv with
    | cons h1 hv =>
    cases hv with
    | cons h2 hv =>
    cases hv
    cases dp_str h1
    cases dp_str h2
    refine case_tag hs (by decide +kernel) ?_
    refine case_tag hs (by decide +kernel) ?_
    refine case_1 hs ?_
    exact ⟨_, rfl, q H (fun _ _ h => h)⟩
  | call nm ps =>
    cases hds
    cases hv with
    | cons h1 hv =>
    cases hv with
    | cons h2 hv =>
    cases hv with
    | cons h3 hv =>
    cases hv
    cases dp_str h1
    cases dp_str h2
    obtain ⟨a3, ys3, rfl, hs3, hv3⟩ := dp_tup h3
    refine case_len hs (by show ¬ 3 = 2; decide) ?_
    refine case_len hs (by show ¬ 3 = 2; decide) ?_
    refine case_len hs (by show ¬ 3 = 2; decide) ?_
    refine case_2 hs ?_
    have hlen : (wE (.call nm ps) r).length = nm.length + (TL.joinL [44, 32] (exsW ps)).length + 2 := by
      show (nm ++ 40 :: (TL.joinL [44, 32] (exsW ps) ++ [41])).length = _
      simp
      omega
    have jl := joinL_len [44, 32] (exsW ps)
    have bl := big_le
    rw [show ([44, 32] : List Nat).length = 2 from rfl] at jl
    refine ⟨rfl, _, rfl, a3, rfl, ⟨_, hs3⟩, fun D hD => lc_tup (xs := ys3) (fun i H' => Same H H' ∧ H' D = some (.lst (((exsW ps).take i).map fun x => V.str (S x)))) ⟨same_upd hD _, upd_same⟩ (fun i H' _ h => sqT_same h.1 hs3) (fun i x H' hx h => ?_) (fun H' h => ?_)⟩
    · obtain ⟨s4, iD⟩ := h
      obtain ⟨d, hd4, dx⟩ := dpa_inv hv3 hx
      rw [exsD_map, List.getElem?_map] at hd4
      obtain ⟨e, he, ed⟩ := Option.map_eq_some_iff.mp hd4
      subst ed
      have hw : (exsW ps)[i]? = some (wE e 0) := by rw [exsW_map, List.getElem?_map, he]; rfl
      have hm := mem_sum (List.mem_of_getElem? hw)
      refine ⟨rfl, ?_⟩
      show tCall (spWritten K k) [.int 0] E0 (tCons (tVar 6) tNil) _ _ _
      refine ⟨_, rfl, _, e, 0, rfl, dp_same s4 dx, hf e (List.mem_of_getElem? he), by omega, fun H5 s5 => ?_⟩
      refine ⟨_, s5 _ _ iD, ?_, Same.newer (s4.trans s5) hD (but_upd _), ?_⟩
      · rw [List.length_map, List.length_take]
        omega
      · rw [upd_same, List.take_add_one, hw, List.map_append]
        rfl
    · obtain ⟨s4, iD⟩ := h
      have lx : ys3.length = (exsW ps).length := by rw [dpa_len hv3, exsD_map, exsW_map, List.length_map, List.length_map]
      rw [lx, List.take_length] at iD
      refine ⟨", ", D, (exsW ps).map S, rfl, rfl, .inl (SqL.of (by rw [List.map_map]; exact iD)), ?_, ?_⟩
      · rw [lens_S, List.length_map, show ((", " : Str)).length = 2 by decide +kernel]
        have : (16777216 : Nat) = sizeLine := rfl
        omega
      rw [show (", " : Str) = S [44, 32] by decide +kernel, join_S]
      have z := q H' s4
      refine js_start (js_v (y := nm) rfl (by simp; omega) (js_c (y := [40]) (by decide +kernel) (by simp; omega) (js_v (y := TL.joinL [44, 32] (exsW ps)) rfl (by simp; omega) (js_c (y := [41]) (by decide +kernel) (by simp; omega) ?_))))
      have e : ([] ++ nm ++ [40] ++ TL.joinL [44, 32] (exsW ps) ++ [41] : List Nat) = wE (.call nm ps) r := by
        show _ = nm ++ 40 :: (TL.joinL [44, 32] (exsW ps) ++ [41])
        simp
      show Q (.str (S ([] ++ nm ++ [40] ++ TL.joinL [44, 32] (exsW ps) ++ [41]))) H'
      rw [e]
      exact z
  | chain o f rs =>
    cases hds
    cases hv with
    | cons h1 hv =>
    cases hv with
    | cons h2 hv =>
    cases hv with
    | cons h3 hv =>
    cases hv with
    | cons h4 hv =>
    cases hv
    cases dp_str h1
    cases dp_int h2
    obtain ⟨a4, ys4, rfl, hs4, hv4⟩ := dp_tup h4
    refine case_len hs (by show ¬ 4 = 2; decide) ?_
    refine case_len hs (by show ¬ 4 = 2; decide) ?_
    refine case_len hs (by show ¬ 4 = 2; decide) ?_
    refine case_len hs (by show ¬ 4 = 3; decide) ?_
    have bl := big_le
    have jl := joinL_len [32] (wE f (o + 1) :: rsW rs (o + 1))
    rw [show ([32] : List Nat).length = 1 from rfl, Nat.mul_one] at jl
    have jl3 : (wE f (o + 1) :: rsW rs (o + 1)).length = (rsW rs (o + 1)).length + 1 := rfl
    have hlen : (TL.joinL [32] (wE f (o + 1) :: rsW rs (o + 1))).length ≤ (wE (.chain o f rs) r).length := by
      show _ ≤ (if o < r then 40 :: (TL.joinL [32] (wE f (o + 1) :: rsW rs (o + 1)) ++ [41]) else TL.joinL [32] (wE f (o + 1) :: rsW rs (o + 1))).length
      by_cases ho : o < r
      · rw [if_pos ho]
        simp
        omega
      · rw [if_neg ho]
        exact Nat.le_refl _
    have hf1 : (wE f (o + 1)).length ≤ BIG := by
      have := mem_sum (x := wE f (o + 1)) (xs := wE f (o + 1) :: rsW rs (o + 1)) List.mem_cons_self
      omega
    refine ⟨_, rfl, a, _, 1, _, rfl, rfl, hs, atI_nat (j := 1) rfl, ?_⟩
    refine ⟨_, rfl, a, _, 2, _, rfl, rfl, hs, atI_nat (j := 2) rfl, _, rfl, _, _, rfl, rfl, _, f, o + 1, rfl, h3, hf.1, hf1, fun H1 s1 => ⟨(by show 1 ≤ sizeLine; decide), fun u hu => ?_⟩⟩
    have hs1 := sqT_same s1 hs
    have s2 : Same H (upd H1 u (.lst [.str (S (wE f (o + 1)))])) := s1.trans (same_upd hu _)
    have iu : (upd H1 u (.lst [.str (S (wE f (o + 1)))])) u = some (.lst [.str (S (wE f (o + 1)))]) := upd_same
    have hu0 : H u = none := by
      cases hh : H u with
      | none => rfl
      | some o => exact absurd (s1 u o hh) (by rw [hu]; intro z; cases z)
    generalize upd H1 u (.lst [.str (S (wE f (o + 1)))]) = H2 at s2 iu ⊢
    refine ⟨_, rfl, a, _, 3, _, rfl, rfl, sqT_same s2 hs, atI_nat (j := 3) rfl, a4, rfl, ⟨_, sqT_same s2 hs4⟩, for_tup (xs := ys4) (fun i σ H' => ∃ x9 x10, σ = [some (.ref a), some (.int r), none, none, none, none, none, some (.int o), some (.ref u), x9, x10, none] ∧ Same H H' ∧ H' u = some (.lst ((wE f (o + 1) :: (rsW rs (o + 1)).take i).map fun x => V.str (S x)))) ⟨none, none, rfl, s2, iu⟩ (fun i σ H' _ h => ?_) (fun i x σ H' hx h => ?_) (fun σ H' h => ?_)⟩
    · obtain ⟨_, _, _, h, _⟩ := h
      exact sqT_same h hs4
    · obtain ⟨x9, x10, rfl, s3, iu3⟩ := h
      obtain ⟨d, hd4, dx⟩ := dpa_inv hv4 hx
      rw [rsD_map, List.getElem?_map] at hd4
      obtain ⟨e, he, ed⟩ := Option.map_eq_some_iff.mp hd4
      subst ed
      obtain ⟨a5, ys5, rfl, hs5, hv5⟩ := dp_tup dx
      cases hv5 with
      | cons h51 hv5 =>
      cases hv5 with
      | cons h52 hv5 =>
      cases hv5
      cases dp_str h51
      have hw : (rsW rs (o + 1))[i]? = some (e.1 ++ 32 :: wE e.2 (o + 1)) := by rw [rsW_map, List.getElem?_map, he]; rfl
      have hm := mem_sum (List.mem_cons_of_mem (wE f (o + 1)) (List.mem_of_getElem? hw))
      have hm2 : (e.1 ++ 32 :: wE e.2 (o + 1)).length = e.1.length + (wE e.2 (o + 1)).length + 1 := by simp; omega
      refine ⟨a5, _, rfl, sqT_same s3 hs5, rfl, _, _, rfl, _, _, rfl, rfl, ?_⟩
      refine ⟨_, rfl, .inl ⟨rfl, _, SqL.of iu3⟩, ?_⟩
      refine js_start (js_v (y := e.1) rfl (by simp; omega) (js_c (y := [32]) (by decide +kernel) (by simp; omega) ?_))
      refine ⟨_, rfl, _, rfl, _, _, rfl, rfl, _, e.2, o + 1, rfl, dp_same s3 h52, hf.2 e (List.mem_of_getElem? he), by omega, fun H6 s6 => .inl ⟨_, rfl, by rw [S_len]; omega, _, rfl, by rw [S_cat, S_len]; simp; omega, ?_⟩⟩
      refine ⟨u, _, _, rfl, rfl, s6 _ _ iu3, ?_, ?_⟩
      · rw [List.length_map, List.length_cons, List.length_take]
        omega
      refine ⟨_, _, rfl, Same.newer (s3.trans s6) hu0 (but_upd _), ?_⟩
      rw [upd_same, List.take_add_one, hw]
      simp only [Option.toList, ← List.cons_append, List.map_append, List.map_cons, List.map_nil, S_cat]
      simp
    · obtain ⟨x9, x10, rfl, s3, iu3⟩ := h
      have lx : ys4.length = (rsW rs (o + 1)).length := by rw [dpa_len hv4, rsD_map, rsW_map, List.length_map, List.length_map]
      rw [lx, List.take_length] at iu3
      refine ⟨rfl, _, rfl, " ", u, (wE f (o + 1) :: rsW rs (o + 1)).map S, rfl, rfl, .inl (SqL.of (by rw [List.map_map]; exact iu3)), ?_, ?_⟩
      · rw [lens_S, List.length_map, show ((" " : Str)).length = 1 by decide +kernel]
        have : (16777216 : Nat) = sizeLine := rfl
        omega
      rw [show (" " : Str) = S [32] by decide +kernel, join_S]
      have z := q H' s3
      refine ⟨_, rfl, _, rfl, _, _, rfl, rfl, _, rfl, ?_⟩
      by_cases ho : o < r
      · have eq : wE (.chain o f rs) r = 40 :: (TL.joinL [32] (wE f (o + 1) :: rsW rs (o + 1)) ++ [41]) := if_pos ho
        have hlen2 : (wE (.chain o f rs) r).length = (TL.joinL [32] (wE f (o + 1) :: rsW rs (o + 1))).length + 2 := by rw [eq]; simp
        refine (show (if decide ((o : Int) < (r : Int)) = true then _ else _) from iteT' (decide_eq_true (by omega)) ?_)
        refine js_start (js_c (y := [40]) (by decide +kernel) (by simp; omega) (js_v (y := TL.joinL [32] (wE f (o + 1) :: rsW rs (o + 1))) rfl (by simp; omega) (js_c (y := [41]) (by decide +kernel) (by simp; omega) ?_)))
        have e : ([] ++ [40] ++ TL.joinL [32] (wE f (o + 1) :: rsW rs (o + 1)) ++ [41] : List Nat) = wE (.chain o f rs) r := by
          rw [eq]
          simp
        show Q (.str (S ([] ++ [40] ++ TL.joinL [32] (wE f (o + 1) :: rsW rs (o + 1)) ++ [41]))) H'
        rw [e]
        exact z
      · have eq : wE (.chain o f rs) r = TL.joinL [32] (wE f (o + 1) :: rsW rs (o + 1)) := if_neg ho
        refine (show (if decide ((o : Int) < (r : Int)) = true then _ else _) from iteF' (decide_eq_false (by omega)) ?_)
        rw [eq] at z
        exact ⟨_, rfl, z⟩
theorem ok_written (T : Txt w K mg) : ∀ k : Nat, Cal P w K mg base (k + 1) (ga K "written_expression") ["expression", "rank"] [] (spWritten K k) ∧ Cal P w K mg base (k + 1) (ga K "written_expression") ["expression", "rank"] [.int 0] (spWritten K k)
  | 0 => by
    obtain ⟨fd, F⟩ := T.d_written_expression
    have x : ∀ vs H Q E, ¬ spWritten K 0 vs H Q E := by
      rintro vs H Q E ⟨v, e, r, _, _, z, _⟩
      exact z
    exact ⟨cal_of F sc_written_expression (F.binds1 2 1 (by simp) rfl (fun _ _ _ _ _ _ _ us its hl hi => match us, its, hl, hi with | [_, _], [_], _, _ => ⟨_, rfl, rfl⟩)) (fun vs H Q E z => (x _ _ _ _ z).elim) (fun cdv A outer s H vs Q E hr z => (x _ _ _ _ z).elim),
      cal_of F sc_written_expression (F.binds1 1 0 (by simp) rfl (fun _ _ _ _ _ _ _ us its hl hi => match us, its, hl, hi with | [_], [_], _, _ => ⟨_, rfl, rfl⟩)) (fun vs H Q E z => (x _ _ _ _ z).elim) (fun cdv A outer s H vs Q E hr z => (x _ _ _ _ z).elim)⟩
  | k + 1 => by
    obtain ⟨c1, c2⟩ := ok_written T k
    obtain ⟨fd, F⟩ := T.d_written_expression
    exact ⟨cal_of F sc_written_expression (F.binds1 2 1 (by simp) rfl (fun _ _ _ _ _ _ _ us its hl hi => match us, its, hl, hi with | [_, _], [_], _, _ => ⟨_, rfl, rfl⟩)) (by rintro vs H Q E ⟨v, e, r, rfl, _⟩; rfl) (fun cdv A outer s H vs Q E hr h => written_body T c1 c2 cdv A outer s H vs Q E hr h),
      cal_of F sc_written_expression (F.binds1 1 0 (by simp) rfl (fun _ _ _ _ _ _ _ us its hl hi => match us, its, hl, hi with | [_], [_], _, _ => ⟨_, rfl, rfl⟩)) (by rintro vs H Q E ⟨v, e, r, rfl, _⟩; rfl) (fun cdv A outer s H vs Q E hr h => written_body T c1 c2 cdv A outer s H vs Q E hr h)⟩
end
end Lx

set_option maxHeartbeats 4000000
namespace L2
open PySem PySem.Spec PyProof.Rows
/-! The turns of a comprehension of two clauses: the outer one over a tuple, the inner one over a list. -/
theorem yes_if {σ : St} {H : Hp} {A B : Hp → Prop} (x : A H) : tYes σ H fun b H3 => if b = true then A H3 else B H3 := x
theorem Same.fresh {H H' : Hp} {p : Addr} (s : Same H H') (h : H' p = none) : H p = none := by
  cases hh : H p with
  | none => rfl
  | some o => exact absurd (s p o hh) (by rw [h]; intro z; cases z)
/-- the outer clause -/
theorem lc2_tup {K : PySem.W.Frag} {a : Addr} {xs : List V} {R : (Hp → Prop) → V → Hp → Prop} {H1 : Hp} {Qd : Hp → Prop} (Pv : Nat → Hp → Prop) (h0 : Pv 0 H1) (hl : ∀ i H, i ≤ xs.length → Pv i H → SqT K H a xs)
    (hs : ∀ i x H, xs[i]? = some x → Pv i H → R (Pv (i + 1)) x H) (hd : ∀ H, Pv xs.length H → Qd H) :
    ∃ W : Nat → Nat → Hp → Prop, (∃ m, W 0 m H1) ∧ ∀ i m H, W i m H →
      ((Itt K a).stop i H ∧ Qd H) ∨ ((Itt K a).go i H ∧ ∃ Nx : Hp → Prop, (∀ H', Nx H' → ∃ m', m' < m ∧ W (i + 1) m' H') ∧ ∀ x H', (Itt K a).yld i H x H' → R Nx x H') := by
  refine ⟨fun i m H => m = xs.length - i ∧ i ≤ xs.length ∧ Pv i H, ⟨xs.length, rfl, Nat.zero_le _, h0⟩, ?_⟩
  rintro i m H ⟨rfl, hi, p⟩
  have q := hl i H hi p
  by_cases hlt : i < xs.length
  · refine .inr ⟨⟨xs, xs[i], q, List.getElem?_eq_getElem hlt⟩, Pv (i + 1), fun H' p' => ⟨xs.length - (i + 1), by omega, rfl, hlt, p'⟩, fun x H' y => ?_⟩
    obtain ⟨e, y⟩ := y
    subst e
    exact hs i x _ (y xs q) p
  · have e : i = xs.length := by omega
    subst e
    exact .inl ⟨⟨xs, q, Nat.le_refl _⟩, hd H p⟩
/-- the inner clause -/
theorem lc2_list {K : PySem.W.Frag} {a : Addr} {xs : List V} {R : (Hp → Prop) → V → Hp → Prop} {H1 : Hp} {Qd : Hp → Prop} (Pv : Nat → Hp → Prop) (h0 : Pv 0 H1) (hl : ∀ i H, i ≤ xs.length → Pv i H → SqL K H a xs)
    (hs : ∀ i x H, xs[i]? = some x → Pv i H → R (Pv (i + 1)) x H) (hd : ∀ H, Pv xs.length H → Qd H) :
    ∃ W : Nat → Nat → Hp → Prop, (∃ m, W 0 m H1) ∧ ∀ i m H, W i m H →
      ((Itl K a).stop i H ∧ Qd H) ∨ ((Itl K a).go i H ∧ ∃ Nx : Hp → Prop, (∀ H', Nx H' → ∃ m', m' < m ∧ W (i + 1) m' H') ∧ ∀ x H', (Itl K a).yld i H x H' → R Nx x H') := by
  refine ⟨fun i m H => m = xs.length - i ∧ i ≤ xs.length ∧ Pv i H, ⟨xs.length, rfl, Nat.zero_le _, h0⟩, ?_⟩
  rintro i m H ⟨rfl, hi, p⟩
  have q := hl i H hi p
  by_cases hlt : i < xs.length
  · refine .inr ⟨⟨xs, xs[i], q, List.getElem?_eq_getElem hlt⟩, Pv (i + 1), fun H' p' => ⟨xs.length - (i + 1), by omega, rfl, hlt, p'⟩, fun x H' y => ?_⟩
    obtain ⟨e, y⟩ := y
    subst e
    exact hs i x _ (y xs q) p
  · have e : i = xs.length := by omega
    subst e
    exact .inl ⟨⟨xs, q, Nat.le_refl _⟩, hd H p⟩
end L2

set_option maxHeartbeats 4000000
namespace Lx
open PySem PySem.Spec PyProof.Rows L2 He SX Tx
/-! ### the calls of an expression -/
mutual
def cE : Ex → List (List Nat)
  | .num _ => []
  | .txt _ => []
  | .var _ => []
  | .call w ps => csE ps ++ [w]
  | .chain _ f rs => cE f ++ crE rs
def csE : List Ex → List (List Nat)
  | [] => []
  | e :: es => cE e ++ csE es
def crE : List (List Nat × Ex) → List (List Nat)
  | [] => []
  | (_, e) :: rs => cE e ++ crE rs
end
theorem csE_map : ∀ es : List Ex, csE es = es.flatMap cE
  | [] => rfl
  | e :: es => by rw [List.flatMap_cons, ← csE_map es]; rfl
theorem crE_map : ∀ rs : List (List Nat × Ex), crE rs = rs.flatMap fun x => cE x.2
  | [] => rfl
  | (z, e) :: rs => by rw [List.flatMap_cons, ← crE_map rs]; rfl
/-- a new list of texts -/
def RetL (H : Hp) (Q : VK) (xs : List (List Nat)) : Prop := ∀ D H', Same H H' → H D = none → H' D = some (.lst (xs.map fun x => V.str (S x))) → Q (.ref D) H'
def spCalls (K : PySem.W.Frag) (k : Nat) : Sp := fun vs H Q _ => ∃ (v : V) (e : Ex), vs = [v] ∧ Dp K H v (exD e) ∧ fit k e ∧ (cE e).length ≤ BIG ∧ RetL H Q (cE e)
section
variable {P : Program} {w : World} {K : PySem.W.Frag} {mg : Str → Option Value} {base : Heap}
theorem ok_calls0 (T : Txt w K mg) {k : Nat} (c_calls_of : Cal P w K mg base (k + 1) (ga K "calls_of") ["expression"] [] (spCalls K k)) :
    Cal P w K mg base (k + 2) (ga K "calls_of") ["expression"] [] (spCalls K (k + 1)) := by
  obtain ⟨fd, F⟩ := T.d_calls_of
  refine cal_of F sc_calls_of (bi_plain F (F.bindsN fun _ _ _ _ _ _ us hl => match us, hl with | [_], _ => rfl)) (by rintro vs H Q E ⟨v, e, rfl, _⟩; rfl) (fun cdv A outer s H vs Q E hr h => ?_)
  obtain ⟨v, e, rfl, hd, hf, hb, q⟩ := h
  have hr_calls_of := hr
  refine ⟨_, (pss_cons (ps_match (pv 0) (pcs_cons sc_calls_of.nd (pm_seq rfl (pms_cons (pm_val op_eq pe_str) (pms_cons (pm_name (i := 1)) (pms_cons (pm_name (i := 2)) pms_nil)))) (pss_one (ps_ret (pe_op op_cat (pe_lc2 (own := [("part", 3), ("inner", 4)]) (g := gName 3) (g1 := gName 4) (wi1 := iList K (tCall (spCalls K k) [] E0 (tCons (tVar 3) tNil))) (vs1 := [4]) (by rfl) sc_calls_of.nd (pi_tup (pv 2)) (blkOk_by (own := [("part", 3), ("inner", 4)]) (N := ["expression", "word", "parts", "part", "inner", "rank", "first", "rest", "sign", "operand"]) (sc := defScope s_calls_of) (by decide +kernel)) (by decide) (fun _ _ _ _ _ => (pg_name (i := 3) sc_calls_of.nd rfl (Or.inl rfl))) (fun _ _ _ _ _ => pts_nil) (fun _ _ _ _ _ => (pi_list (pe_callC c_calls_of hr_calls_of T.g_calls_of (pa_cons (pv 3) pa_nil)))) (fun _ _ _ _ _ => (pg_name (i := 4) sc_calls_of.nd rfl (Or.inl rfl))) (fun _ _ _ _ _ => pts_nil) (fun _ _ _ _ _ => (pv 4))) (pe_lst (pa_cons (pv 1) pa_nil)))))
 (pcs_cons sc_calls_of.nd (pm_seq rfl (pms_cons (pm_val op_eq pe_str) (pms_cons (pm_name (i := 5)) (pms_cons (pm_name (i := 6)) (pms_cons (pm_name (i := 7)) pms_nil))))) (pss_one (ps_ret (pe_op op_cat (pe_callC c_calls_of hr_calls_of T.g_calls_of (pa_cons (pv 6) pa_nil)) (pe_lc2 (own := [("sign", 8), ("operand", 9), ("inner", 4)]) (g := gTup K 2 (gCons (gName 8) (gCons (gName 9) gNil))) (g1 := gName 4) (wi1 := iList K (tCall (spCalls K k) [] E0 (tCons (tVar 9) tNil))) (vs1 := [4]) (by rfl) sc_calls_of.nd (pi_tup (pv 7)) (blkOk_by (own := [("sign", 8), ("operand", 9), ("inner", 4)]) (N := ["expression", "word", "parts", "part", "inner", "rank", "first", "rest", "sign", "operand"]) (sc := defScope s_calls_of) (by decide +kernel)) (by decide) (fun _ _ _ _ _ => (pg_tup rfl (pgs_cons (pg_name (i := 8) sc_calls_of.nd rfl (Or.inl rfl)) (pgs_cons (pg_name (i := 9) sc_calls_of.nd rfl (Or.inl rfl)) pgs_nil)))) (fun _ _ _ _ _ => pts_nil) (fun _ _ _ _ _ => (pi_list (pe_callC c_calls_of hr_calls_of T.g_calls_of (pa_cons (pv 9) pa_nil)))) (fun _ _ _ _ _ => (pg_name (i := 4) sc_calls_of.nd rfl (Or.inl rfl))) (fun _ _ _ _ _ => pts_nil) (fun _ _ _ _ _ => (pv 4))))))
 pcs_nil)))
 (pss_one (ps_ret (pe_lst pa_nil)))), ?_⟩
  refine ⟨_, rfl, ?_⟩
  obtain ⟨a, ys, rfl, hs, hv⟩ : ∃ a ys, v = .ref a ∧ SqT K H a ys ∧ ∃ ds, exD e = .tuple ds ∧ DpAll K H ys ds := by
    cases e <;> (obtain ⟨a, ys, e1, e2, e3⟩ := dp_tup hd; exact ⟨a, ys, e1, e2, _, rfl, e3⟩)
  obtain ⟨ds, hds, hv⟩ := hv
  cases e with
  | num n =>
    cases hds
    have l2 : ys.length = 2 := dpa_len hv
    refine case_len hs (by rw [l2]; show ¬ 2 = 3; decide) (case_len hs (by rw [l2]; show ¬ 2 = 4; decide) ?_)
    exact ⟨(by show 0 ≤ sizeLine; decide), fun u hu => q u _ (same_upd hu _) hu upd_same⟩
  | txt n =>
    cases hds
    have l2 : ys.length = 2 := dpa_len hv
    refine case_len hs (by rw [l2]; show ¬ 2 = 3; decide) (case_len hs (by rw [l2]; show ¬ 2 = 4; decide) ?_)
    exact ⟨(by show 0 ≤ sizeLine; decide), fun u hu => q u _ (same_upd hu _) hu upd_same⟩
  | var n =>
    cases hds
    have l2 : ys.length = 2 := dpa_len hv
    refine case_len hs (by rw [l2]; show ¬ 2 = 3; decide) (case_len hs (by rw [l2]; show ¬ 2 = 4; decide) ?_)
    exact ⟨(by show 0 ≤ sizeLine; decide), fun u hu => q u _ (same_upd hu _) hu upd_same⟩
  | call nm ps =>
    cases hds
    cases hv with
    | cons h1 hv =>
    cases hv with
    | cons h2 hv =>
    cases hv with
    | cons h3 hv =>
    cases hv
    cases dp_str h1
    cases dp_str h2
    obtain ⟨a3, ys3, rfl, hs3, hv3⟩ := dp_tup h3
    refine case_2 hs ?_
    have hcl : (csE ps).length + 1 = (cE (.call nm ps)).length := by show _ = (csE ps ++ [nm]).length; simp
    refine ⟨_, rfl, a3, rfl, ⟨_, hs3⟩, fun D hD => lc2_tup (xs := ys3) (fun i H' => Same H H' ∧ H' D = some (.lst ((csE (ps.take i)).map fun x => V.str (S x)))) ⟨same_upd hD _, upd_same⟩ (fun i H' _ h => sqT_same h.1 hs3) (fun i x H' hx h => ?_) (fun H' h => ?_)⟩
    · obtain ⟨s4, iD⟩ := h
      obtain ⟨d, hd4, dx⟩ := dpa_inv hv3 hx
      rw [exsD_map, List.getElem?_map] at hd4
      obtain ⟨e, he, ed⟩ := Option.map_eq_some_iff.mp hd4
      subst ed
      have hle : (csE (ps.take i)).length + (cE e).length ≤ (csE ps).length := by
        have z := List.take_append_drop i ps
        have z2 := congrArg (fun l => (csE l).length) z
        simp only [csE_map, List.flatMap_append, List.length_append] at z2 ⊢
        rw [List.drop_eq_getElem_cons (List.getElem?_eq_some_iff.mp he).1, (List.getElem?_eq_some_iff.mp he).2, List.flatMap_cons, List.length_append] at z2
        omega
      refine ⟨rfl, yes_if ?_⟩
      refine ⟨_, rfl, _, e, rfl, dp_same s4 dx, hf e (List.mem_of_getElem? he), by omega, fun D2 H5 s5 hD2 i5 => ⟨D2, rfl, ⟨_, SqL.of i5⟩, ?_⟩⟩
      have nD : D ≠ D2 := fun e => by rw [e, hD2] at iD; cases iD
      refine lc2_list (xs := (cE e).map fun x => V.str (S x)) (fun j H6 => Same H H6 ∧ H6 D2 = some (.lst ((cE e).map fun x => V.str (S x))) ∧ H6 D = some (.lst ((csE (ps.take i) ++ (cE e).take j).map fun x => V.str (S x)))) ⟨s4.trans s5, i5, by rw [s5 _ _ iD]; simp⟩ (fun j H6 _ h => SqL.of h.2.1) (fun j y H6 hy h => ?_) (fun H6 h => ?_)
      · obtain ⟨s6, i6, iD6⟩ := h
        refine ⟨rfl, yes_if ?_⟩
        refine ⟨_, rfl, _, iD6, ?_, Same.newer s6 hD (but_upd _), by rw [upd_ne nD.symm]; exact i6, ?_⟩
        · rw [List.length_map, List.length_append, List.length_take]
          have := big_le
          omega
        · rw [List.getElem?_map] at hy
          obtain ⟨t, ht, et⟩ := Option.map_eq_some_iff.mp hy
          subst et
          rw [upd_same, List.take_add_one, ht]
          simp
      · obtain ⟨s6, i6, iD6⟩ := h
        refine ⟨s6, ?_⟩
        rw [List.length_map, List.take_length] at iD6
        rw [iD6]
        congr 3
        rw [csE_map, csE_map, List.take_add_one, he, List.flatMap_append]
        simp
    · obtain ⟨s4, iD⟩ := h
      have lx : ys3.length = ps.length := by rw [dpa_len hv3, exsD_map, List.length_map]
      rw [lx, List.take_length] at iD
      have bl := big_le
      have hl : (cE (.call nm ps)).length = (csE ps).length + 1 := by show (csE ps ++ [nm]).length = _; simp
      refine ⟨_, rfl, (by show 1 ≤ sizeLine; decide), fun u hu => ?_⟩
      have s5 := s4.trans (same_upd hu (.lst [.str (S nm)]))
      refine ⟨_, _, _, _, rfl, rfl, (same_upd hu _) _ _ iD, upd_same, by rw [List.length_map]; show (csE ps).length + 1 ≤ sizeLine; omega, fun p hp => ?_⟩
      refine q p _ (s5.trans (same_upd hp _)) ?_ ?_
      · exact Same.fresh s5 hp
      · rw [upd_same]
        show _ = some (HO.lst ((csE ps ++ [nm]).map fun x => V.str (S x)))
        simp
  | chain o f rs =>
    cases hds
    cases hv with
    | cons h1 hv =>
    cases hv with
    | cons h2 hv =>
    cases hv with
    | cons h3 hv =>
    cases hv with
    | cons h4 hv =>
    cases hv
    cases dp_str h1
    cases dp_int h2
    obtain ⟨a4, ys4, rfl, hs4, hv4⟩ := dp_tup h4
    have hcl : (cE f).length + (crE rs).length = (cE (.chain o f rs)).length := by show _ = (cE f ++ crE rs).length; simp
    refine case_len hs (by show ¬ 4 = 3; decide) (case_3 hs ?_)
    refine ⟨_, rfl, _, f, rfl, h3, hf.1, by omega, fun D1 H1 s1 hD1 i1 => ?_⟩
    refine ⟨_, rfl, a4, rfl, ⟨_, sqT_same s1 hs4⟩, fun D hD => lc2_tup (xs := ys4) (fun i H' => Same H1 H' ∧ Same H H' ∧ H' D = some (.lst ((crE (rs.take i)).map fun x => V.str (S x)))) ⟨same_upd hD _, s1.trans (same_upd hD _), upd_same⟩ (fun i H' _ h => sqT_same h.2.1 hs4) (fun i x H' hx h => ?_) (fun H' h => ?_)⟩
    · obtain ⟨s14, s4, iD⟩ := h
      obtain ⟨d, hd4, dx⟩ := dpa_inv hv4 hx
      rw [rsD_map, List.getElem?_map] at hd4
      obtain ⟨e, he, ed⟩ := Option.map_eq_some_iff.mp hd4
      subst ed
      have hle : (crE (rs.take i)).length + (cE e.2).length ≤ (crE rs).length := by
        have z := List.take_append_drop i rs
        have z2 := congrArg (fun l => (crE l).length) z
        simp only [crE_map, List.flatMap_append, List.length_append] at z2 ⊢
        rw [List.drop_eq_getElem_cons (List.getElem?_eq_some_iff.mp he).1, (List.getElem?_eq_some_iff.mp he).2, List.flatMap_cons, List.length_append] at z2
        omega
      obtain ⟨a5, ys5, rfl, hs5, hv5⟩ := dp_tup dx
      cases hv5 with
      | cons h51 hv5 =>
      cases hv5 with
      | cons h52 hv5 =>
      cases hv5
      cases dp_str h51
      refine ⟨a5, _, rfl, sqT_same s4 hs5, rfl, _, _, rfl, _, _, rfl, rfl, rfl, yes_if ?_⟩
      refine ⟨_, rfl, _, e.2, rfl, dp_same s4 h52, hf.2 e (List.mem_of_getElem? he), by omega, fun D2 H5 s5 hD2 i5 => ⟨D2, rfl, ⟨_, SqL.of i5⟩, ?_⟩⟩
      have nD : D ≠ D2 := fun e => by rw [e, hD2] at iD; cases iD
      refine lc2_list (xs := (cE e.2).map fun x => V.str (S x)) (fun j H6 => Same H1 H6 ∧ H6 D2 = some (.lst ((cE e.2).map fun x => V.str (S x))) ∧ H6 D = some (.lst ((crE (rs.take i) ++ (cE e.2).take j).map fun x => V.str (S x)))) ⟨s14.trans s5, i5, by rw [s5 _ _ iD]; simp⟩ (fun j H6 _ h => SqL.of h.2.1) (fun j y H6 hy h => ?_) (fun H6 h => ?_)
      · obtain ⟨s6, i6, iD6⟩ := h
        refine ⟨rfl, yes_if ?_⟩
        refine ⟨_, rfl, _, iD6, ?_, Same.newer s6 hD (but_upd _), by rw [upd_ne nD.symm]; exact i6, ?_⟩
        · rw [List.length_map, List.length_append, List.length_take]
          have := big_le
          omega
        · rw [List.getElem?_map] at hy
          obtain ⟨t, ht, et⟩ := Option.map_eq_some_iff.mp hy
          subst et
          rw [upd_same, List.take_add_one, ht]
          simp
      · obtain ⟨s6, i6, iD6⟩ := h
        refine ⟨s6, s1.trans s6, ?_⟩
        rw [List.length_map, List.take_length] at iD6
        rw [iD6]
        congr 3
        rw [crE_map, crE_map, List.take_add_one, he, List.flatMap_append]
        simp
    · obtain ⟨s14, s4, iD⟩ := h
      have lx : ys4.length = rs.length := by rw [dpa_len hv4, rsD_map, List.length_map]
      rw [lx, List.take_length] at iD
      have bl := big_le
      refine ⟨_, _, _, _, rfl, rfl, s14 _ _ i1, iD, by rw [List.length_map, List.length_map]; omega, fun p hp => ?_⟩
      refine q p _ (s4.trans (same_upd hp _)) (Same.fresh s4 hp) ?_
      rw [upd_same]
      show _ = some (HO.lst ((cE f ++ crE rs).map fun x => V.str (S x)))
      simp
theorem ok_calls (T : Txt w K mg) : ∀ k : Nat, Cal P w K mg base (k + 1) (ga K "calls_of") ["expression"] [] (spCalls K k)
  | 0 => by
    obtain ⟨fd, F⟩ := T.d_calls_of
    have x : ∀ vs H Q E, ¬ spCalls K 0 vs H Q E := by
      rintro vs H Q E ⟨v, e, _, _, z, _⟩
      exact z
    exact cal_of F sc_calls_of (bi_plain F (F.bindsN fun _ _ _ _ _ _ us hl => match us, hl with | [_], _ => rfl)) (fun vs H Q E z => (x _ _ _ _ z).elim) (fun cdv A outer s H vs Q E hr z => (x _ _ _ _ z).elim)
  | k + 1 => ok_calls0 T (ok_calls T k)
end
end Lx

set_option maxHeartbeats 4000000
namespace Lx
open PySem PySem.Spec PyProof.Rows L2 He SX Tx
/-! ### statements written -/
def brc (head : List Nat) (rows : List (List Nat)) : List (List Nat) := (head ++ [32, 123]) :: rows.map ([32, 32] ++ ·)
def CLB : List Nat := [125]
mutual
def rowsS : St → List (List Nat)
  | .set z e => [z ++ ([32, 61, 32] ++ (wE e 0 ++ [59]))]
  | .tell e => [[116, 101, 108, 108, 32] ++ (wE e 0 ++ [59])]
  | .run e => [wE e 0 ++ [59]]
  | .whil e b => brc ([119, 104, 105, 108, 101, 32] ++ wE e 0) (rowsL b) ++ [CLB]
  | .each z e b => brc ([102, 111, 114, 32] ++ (z ++ ([32, 105, 110, 32] ++ wE e 0))) (rowsL b) ++ [CLB]
  | .cond e b o => if o.isEmpty then brc ([105, 102, 32] ++ wE e 0) (rowsL b) ++ [CLB] else brc ([105, 102, 32] ++ wE e 0) (rowsL b) ++ brc [125, 32, 101, 108, 115, 101] (rowsL o) ++ [CLB]
  | .att b o => if o.isEmpty then brc [116, 114, 121] (rowsL b) ++ [CLB] else brc [116, 114, 121] (rowsL b) ++ brc [125, 32, 101, 108, 115, 101] (rowsL o) ++ [CLB]
def rowsL : List St → List (List Nat)
  | [] => []
  | s :: ss => rowsS s ++ rowsL ss
end
mutual
def callS : St → List (List Nat)
  | .set _ e => cE e
  | .tell e => cE e
  | .run e => cE e
  | .whil e b => cE e ++ callL b
  | .each _ e b => cE e ++ callL b
  | .cond e b o => cE e ++ callL b ++ callL o
  | .att b o => callL b ++ callL o
def callL : List St → List (List Nat)
  | [] => []
  | s :: ss => callS s ++ callL ss
end
theorem rowsL_map : ∀ ss : List St, rowsL ss = ss.flatMap rowsS
  | [] => rfl
  | s :: ss => by rw [List.flatMap_cons, ← rowsL_map ss]; rfl
theorem callL_map : ∀ ss : List St, callL ss = ss.flatMap callS
  | [] => rfl
  | s :: ss => by rw [List.flatMap_cons, ← callL_map ss]; rfl
theorem stsD_map : ∀ ss : List St, stsD ss = ss.map stD
  | [] => rfl
  | s :: ss => congrArg (stD s :: ·) (stsD_map ss)
def fitS (kx : Nat) : Nat → St → Prop
  | 0, _ => False
  | _ + 1, .set _ e => fit kx e
  | _ + 1, .tell e => fit kx e
  | _ + 1, .run e => fit kx e
  | m + 1, .whil e b => 0 < m ∧ fit kx e ∧ ∀ s ∈ b, fitS kx m s
  | m + 1, .each _ e b => 0 < m ∧ fit kx e ∧ ∀ s ∈ b, fitS kx m s
  | m + 1, .cond e b o => 0 < m ∧ fit kx e ∧ (∀ s ∈ b, fitS kx m s) ∧ ∀ s ∈ o, fitS kx m s
  | m + 1, .att b o => 0 < m ∧ (∀ s ∈ b, fitS kx m s) ∧ ∀ s ∈ o, fitS kx m s
def szs (xs : List (List Nat)) : Nat := (xs.map List.length).sum + xs.length
theorem szs_app (xs ys : List (List Nat)) : szs (xs ++ ys) = szs xs + szs ys := by
  unfold szs
  rw [List.map_append, List.sum_append, List.length_append]
  omega
theorem szs_len (xs : List (List Nat)) : xs.length ≤ szs xs := Nat.le_add_left _ _
theorem szs_part {b : List St} {i : Nat} {s : St} (h : b[i]? = some s) : szs (rowsS s) ≤ szs (rowsL b) := by
  have z := List.take_append_drop i b
  have z2 := congrArg (fun l => szs (rowsL l)) z
  simp only [rowsL_map, List.flatMap_append, szs_app] at z2 ⊢
  rw [List.drop_eq_getElem_cons (List.getElem?_eq_some_iff.mp h).1, (List.getElem?_eq_some_iff.mp h).2, List.flatMap_cons, szs_app] at z2
  omega
def spRows (K : PySem.W.Frag) (kx m : Nat) : Sp := fun vs H Q _ => ∃ (v : V) (s : St), vs = [v] ∧ Dp K H v (stD s) ∧ fitS kx m s ∧ szs (rowsS s) ≤ BIG ∧ RetL H Q (rowsS s)
def spBlockRows (K : PySem.W.Frag) (kx m : Nat) : Sp := fun vs H Q _ => ∃ (v : V) (b : List St), vs = [v] ∧ Dp K H v (.tuple (stsD b)) ∧ (∀ s ∈ b, fitS kx m s) ∧ szs (rowsL b) ≤ BIG ∧ RetL H Q (rowsL b)
def spSCalls (K : PySem.W.Frag) (kx m : Nat) : Sp := fun vs H Q _ => ∃ (v : V) (s : St), vs = [v] ∧ Dp K H v (stD s) ∧ fitS kx m s ∧ (callS s).length ≤ BIG ∧ RetL H Q (callS s)
def spBlockCalls (K : PySem.W.Frag) (kx m : Nat) : Sp := fun vs H Q _ => ∃ (v : V) (b : List St), vs = [v] ∧ Dp K H v (.tuple (stsD b)) ∧ (∀ s ∈ b, fitS kx m s) ∧ (callL b).length ≤ BIG ∧ RetL H Q (callL b)
section
variable {P : Program} {w : World} {K : PySem.W.Frag} {mg : Str → Option Value} {base : Heap}
theorem ok_block_rows0 (T : Txt w K mg) {kx m L : Nat} (c_statement_rows : Cal P w K mg base L (ga K "statement_rows") ["statement"] [] (spRows K kx m)) : Cal P w K mg base (L + 1) (ga K "block_rows") ["block"] [] (spBlockRows K kx m) := by
  obtain ⟨fd, F⟩ := T.d_block_rows
  refine cal_of F sc_block_rows (bi_plain F (F.bindsN fun _ _ _ _ _ _ us hl => match us, hl with | [_], _ => rfl)) (by rintro vs H Q E ⟨v, b, rfl, _⟩; rfl) (fun cdv A outer s H vs Q E hr h => ?_)
  obtain ⟨v, b, rfl, hd, hf, hb, q⟩ := h
  have hr_statement_rows := hr
  obtain ⟨a, ys, rfl, hs, hv⟩ := dp_tup hd
  refine ⟨_, (pss_one (ps_ret (pe_lc2 (own := [("statement", 1), ("row", 2)]) (g := gName 1) (g1 := gName 2) (wi1 := iList K (tCall (spRows K kx m) [] E0 (tCons (tVar 1) tNil))) (vs1 := [2]) (by rfl) sc_block_rows.nd (pi_tup (pv 0)) (blkOk_by (own := [("statement", 1), ("row", 2)]) (N := ["block", "statement", "row"]) (sc := defScope s_block_rows) (by decide +kernel)) (by decide) (fun _ _ _ _ _ => (pg_name (i := 1) sc_block_rows.nd rfl (Or.inl rfl))) (fun _ _ _ _ _ => pts_nil) (fun _ _ _ _ _ => (pi_list (pe_callC c_statement_rows hr_statement_rows T.g_statement_rows (pa_cons (pv 1) pa_nil)))) (fun _ _ _ _ _ => (pg_name (i := 2) sc_block_rows.nd rfl (Or.inl rfl))) (fun _ _ _ _ _ => pts_nil) (fun _ _ _ _ _ => (pv 2))))), ?_⟩
  refine ⟨_, rfl, a, rfl, ⟨_, hs⟩, fun D hD => lc2_tup (xs := ys) (fun i H' => Same H H' ∧ H' D = some (.lst ((rowsL (b.take i)).map fun x => V.str (S x)))) ⟨same_upd hD _, upd_same⟩ (fun i H' _ h => sqT_same h.1 hs) (fun i x H' hx h => ?_) (fun H' h => ?_)⟩
  · obtain ⟨s4, iD⟩ := h
    obtain ⟨d, hd4, dx⟩ := dpa_inv hv hx
    rw [stsD_map, List.getElem?_map] at hd4
    obtain ⟨e, he, ed⟩ := Option.map_eq_some_iff.mp hd4
    subst ed
    have hbl := szs_len (rowsL b)
    have hle : (rowsL (b.take i)).length + (rowsS e).length ≤ (rowsL b).length := by
      have z := List.take_append_drop i b
      have z2 := congrArg (fun l => (rowsL l).length) z
      simp only [rowsL_map, List.flatMap_append, List.length_append] at z2 ⊢
      rw [List.drop_eq_getElem_cons (List.getElem?_eq_some_iff.mp he).1, (List.getElem?_eq_some_iff.mp he).2, List.flatMap_cons, List.length_append] at z2
      omega
    refine ⟨rfl, yes_if ?_⟩
    refine ⟨_, rfl, _, e, rfl, dp_same s4 dx, hf e (List.mem_of_getElem? he), Nat.le_trans (szs_part he) hb, fun D2 H5 s5 hD2 i5 => ⟨D2, rfl, ⟨_, SqL.of i5⟩, ?_⟩⟩
    have nD : D ≠ D2 := fun e => by rw [e, hD2] at iD; cases iD
    refine lc2_list (xs := (rowsS e).map fun x => V.str (S x)) (fun j H6 => Same H H6 ∧ H6 D2 = some (.lst ((rowsS e).map fun x => V.str (S x))) ∧ H6 D = some (.lst ((rowsL (b.take i) ++ (rowsS e).take j).map fun x => V.str (S x)))) ⟨s4.trans s5, i5, by rw [s5 _ _ iD]; simp⟩ (fun j H6 _ h => SqL.of h.2.1) (fun j y H6 hy h => ?_) (fun H6 h => ?_)
    · obtain ⟨s6, i6, iD6⟩ := h
      refine ⟨rfl, yes_if ?_⟩
      refine ⟨_, rfl, _, iD6, ?_, Same.newer s6 hD (but_upd _), by rw [upd_ne nD.symm]; exact i6, ?_⟩
      · rw [List.length_map, List.length_append, List.length_take]
        have := big_le
        omega
      · rw [List.getElem?_map] at hy
        obtain ⟨t, ht, et⟩ := Option.map_eq_some_iff.mp hy
        subst et
        rw [upd_same, List.take_add_one, ht]
        simp
    · obtain ⟨s6, i6, iD6⟩ := h
      refine ⟨s6, ?_⟩
      rw [List.length_map, List.take_length] at iD6
      rw [iD6]
      congr 3
      rw [rowsL_map, rowsL_map, List.take_add_one, he, List.flatMap_append]
      simp
  · obtain ⟨s4, iD⟩ := h
    have lx : ys.length = b.length := by rw [dpa_len hv, stsD_map, List.length_map]
    rw [lx, List.take_length] at iD
    exact q D _ s4 hD iD
theorem ok_block_calls0 (T : Txt w K mg) {kx m L : Nat} (c_statement_calls : Cal P w K mg base L (ga K "statement_calls") ["statement"] [] (spSCalls K kx m)) : Cal P w K mg base (L + 1) (ga K "block_calls") ["block"] [] (spBlockCalls K kx m) := by
  obtain ⟨fd, F⟩ := T.d_block_calls
  refine cal_of F sc_block_calls (bi_plain F (F.bindsN fun _ _ _ _ _ _ us hl => match us, hl with | [_], _ => rfl)) (by rintro vs H Q E ⟨v, b, rfl, _⟩; rfl) (fun cdv A outer s H vs Q E hr h => ?_)
  obtain ⟨v, b, rfl, hd, hf, hb, q⟩ := h
  have hr_statement_calls := hr
  obtain ⟨a, ys, rfl, hs, hv⟩ := dp_tup hd
  refine ⟨_, (pss_one (ps_ret (pe_lc2 (own := [("statement", 1), ("word", 2)]) (g := gName 1) (g1 := gName 2) (wi1 := iList K (tCall (spSCalls K kx m) [] E0 (tCons (tVar 1) tNil))) (vs1 := [2]) (by rfl) sc_block_calls.nd (pi_tup (pv 0)) (blkOk_by (own := [("statement", 1), ("word", 2)]) (N := ["block", "statement", "word"]) (sc := defScope s_block_calls) (by decide +kernel)) (by decide) (fun _ _ _ _ _ => (pg_name (i := 1) sc_block_calls.nd rfl (Or.inl rfl))) (fun _ _ _ _ _ => pts_nil) (fun _ _ _ _ _ => (pi_list (pe_callC c_statement_calls hr_statement_calls T.g_statement_calls (pa_cons (pv 1) pa_nil)))) (fun _ _ _ _ _ => (pg_name (i := 2) sc_block_calls.nd rfl (Or.inl rfl))) (fun _ _ _ _ _ => pts_nil) (fun _ _ _ _ _ => (pv 2))))), ?_⟩
  refine ⟨_, rfl, a, rfl, ⟨_, hs⟩, fun D hD => lc2_tup (xs := ys) (fun i H' => Same H H' ∧ H' D = some (.lst ((callL (b.take i)).map fun x => V.str (S x)))) ⟨same_upd hD _, upd_same⟩ (fun i H' _ h => sqT_same h.1 hs) (fun i x H' hx h => ?_) (fun H' h => ?_)⟩
  · obtain ⟨s4, iD⟩ := h
    obtain ⟨d, hd4, dx⟩ := dpa_inv hv hx
    rw [stsD_map, List.getElem?_map] at hd4
    obtain ⟨e, he, ed⟩ := Option.map_eq_some_iff.mp hd4
    subst ed
    have hle : (callL (b.take i)).length + (callS e).length ≤ (callL b).length := by
      have z := List.take_append_drop i b
      have z2 := congrArg (fun l => (callL l).length) z
      simp only [callL_map, List.flatMap_append, List.length_append] at z2 ⊢
      rw [List.drop_eq_getElem_cons (List.getElem?_eq_some_iff.mp he).1, (List.getElem?_eq_some_iff.mp he).2, List.flatMap_cons, List.length_append] at z2
      omega
    refine ⟨rfl, yes_if ?_⟩
    refine ⟨_, rfl, _, e, rfl, dp_same s4 dx, hf e (List.mem_of_getElem? he), by omega, fun D2 H5 s5 hD2 i5 => ⟨D2, rfl, ⟨_, SqL.of i5⟩, ?_⟩⟩
    have nD : D ≠ D2 := fun e => by rw [e, hD2] at iD; cases iD
    refine lc2_list (xs := (callS e).map fun x => V.str (S x)) (fun j H6 => Same H H6 ∧ H6 D2 = some (.lst ((callS e).map fun x => V.str (S x))) ∧ H6 D = some (.lst ((callL (b.take i) ++ (callS e).take j).map fun x => V.str (S x)))) ⟨s4.trans s5, i5, by rw [s5 _ _ iD]; simp⟩ (fun j H6 _ h => SqL.of h.2.1) (fun j y H6 hy h => ?_) (fun H6 h => ?_)
    · obtain ⟨s6, i6, iD6⟩ := h
      refine ⟨rfl, yes_if ?_⟩
      refine ⟨_, rfl, _, iD6, ?_, Same.newer s6 hD (but_upd _), by rw [upd_ne nD.symm]; exact i6, ?_⟩
      · rw [List.length_map, List.length_append, List.length_take]
        have := big_le
        omega
      · rw [List.getElem?_map] at hy
        obtain ⟨t, ht, et⟩ := Option.map_eq_some_iff.mp hy
        subst et
        rw [upd_same, List.take_add_one, ht]
        simp
    · obtain ⟨s6, i6, iD6⟩ := h
      refine ⟨s6, ?_⟩
      rw [List.length_map, List.take_length] at iD6
      rw [iD6]
      congr 3
      rw [callL_map, callL_map, List.take_add_one, he, List.flatMap_append]
      simp
  · obtain ⟨s4, iD⟩ := h
    have lx : ys.length = b.length := by rw [dpa_len hv, stsD_map, List.length_map]
    rw [lx, List.take_length] at iD
    exact q D _ s4 hD iD
theorem js_call {k : Nat} {ts : List TE} {σ : L2.St} {H : Hp} {Q : Str → Hp → Prop} {i : Nat} {acc : List Nat} {v : V} {e : Ex} (hv : σ[i]? = some (some v)) (hd : Dp K H v (exD e)) (hf : fit k e) (hl : (acc ++ wE e 0).length ≤ BIG) (q : ∀ H', Same H H' → tJs ts (S (acc ++ wE e 0)) σ H' Q) :
    tJs (tFmt (tCall (spWritten K k) [.int 0] E0 (tCons (tVar i) tNil)) :: ts) (S acc) σ H Q := by
  have bl := big_le
  rw [List.length_append] at hl
  refine ⟨_, hv, _, e, 0, rfl, hd, hf, by omega, fun H' s' => .inl ⟨_, rfl, by rw [S_len]; omega, _, rfl, by rw [S_cat, S_len, List.length_append]; omega, ?_⟩⟩
  rw [S_cat]
  exact q H' s'
/-- of one row -/
theorem ok_rows1 (T : Txt w K mg) (kx : Nat) : Cal P w K mg base (kx + 2) (ga K "statement_rows") ["statement"] [] (spRows K kx 1) := by
  obtain ⟨fd, F⟩ := T.d_statement_rows
  have c_written_expression0 := (ok_written (P := P) (base := base) T kx).2
  refine cal_of F sc_statement_rows (bi_plain F (F.bindsN fun _ _ _ _ _ _ us hl => match us, hl with | [_], _ => rfl)) (by rintro vs H Q E ⟨v, s, rfl, _⟩; rfl) (fun cdv A outer s H vs Q E hr h => ?_)
  obtain ⟨v, st, rfl, hd, hf, hb, q⟩ := h
  have hr_written_expression := hr
  have bl := big_le
  refine ⟨_, (pss_cons (ps_match (pv 0) (pcs_cons sc_statement_rows.nd (pm_seq rfl (pms_cons (pm_val op_eq pe_str) (pms_cons (pm_name (i := 1)) (pms_cons (pm_name (i := 2)) pms_nil)))) (pss_one (ps_ret (pe_lst (pa_cons (pe_joined (PJ.cons (pe_fmt (pv 1)) (PJ.cons pe_str (PJ.cons (pe_fmt (pe_callC c_written_expression0 hr_written_expression T.g_written_expression (pa_cons (pv 2) pa_nil))) (PJ.cons pe_str PJ.nil))))) pa_nil))))
 (pcs_cons sc_statement_rows.nd (pm_seq rfl (pms_cons (pm_val op_eq pe_str) (pms_cons (pm_name (i := 2)) pms_nil))) (pss_one (ps_ret (pe_lst (pa_cons (pe_joined (PJ.cons pe_str (PJ.cons (pe_fmt (pe_callC c_written_expression0 hr_written_expression T.g_written_expression (pa_cons (pv 2) pa_nil))) (PJ.cons pe_str PJ.nil)))) pa_nil))))
 (pcs_cons sc_statement_rows.nd (pm_seq rfl (pms_cons (pm_val op_eq pe_str) (pms_cons (pm_name (i := 3)) (pms_cons (pm_name (i := 4)) pms_nil)))) (pss_one ps_never)
 (pcs_cons sc_statement_rows.nd (pm_seq rfl (pms_cons (pm_val op_eq pe_str) (pms_cons (pm_name (i := 1)) (pms_cons (pm_name (i := 2)) (pms_cons (pm_name (i := 4)) pms_nil))))) (pss_one ps_never)
 (pcs_cons sc_statement_rows.nd (pm_seq rfl (pms_cons (pm_val op_eq pe_str) (pms_cons (pm_name (i := 3)) (pms_cons (pm_name (i := 4)) (pms_cons (pm_name (i := 5)) pms_nil))))) (pss_one ps_never)
 (pcs_cons sc_statement_rows.nd (pm_seq rfl (pms_cons (pm_val op_eq pe_str) (pms_cons (pm_name (i := 4)) (pms_cons (pm_name (i := 5)) pms_nil)))) (pss_one ps_never)
 pcs_nil)))))))
 (pss_one (ps_ret (pe_lst (pa_cons (pe_joined (PJ.cons (pe_fmt (pe_callC c_written_expression0 hr_written_expression T.g_written_expression (pa_cons (pe_ix ix_tup (pv 0) pe_int (fun _ _ => rfl)) pa_nil))) (PJ.cons pe_str PJ.nil))) pa_nil))))), ?_⟩
  refine ⟨_, rfl, ?_⟩
  cases st with
  | set z e =>
    obtain ⟨a, ys, rfl, hs, hv⟩ := dp_tup hd
    cases hv with
    | cons h1 hv =>
    cases hv with
    | cons h2 hv =>
    cases hv with
    | cons h3 hv =>
    cases hv
    cases dp_str h1
    cases dp_str h2
    refine case_2 hs ?_
    have hz : (z ++ ([32, 61, 32] ++ (wE e 0 ++ [59]))).length + 1 ≤ BIG := by
      have : szs (rowsS (.set z e)) = (z ++ ([32, 61, 32] ++ (wE e 0 ++ [59]))).length + 0 + 1 := rfl
      omega
    simp only [List.length_append, List.length_cons, List.length_nil] at hz
    refine js_start (js_v (y := z) rfl (by simp; omega) (js_c (y := [32, 61, 32]) (by decide +kernel) (by simp; omega) (js_call rfl h3 hf (by simp; omega) fun H1 s1 => js_c (y := [59]) (by decide +kernel) (by simp; omega) ?_)))
    refine ⟨(by show 1 ≤ sizeLine; decide), fun u hu => ?_⟩
    refine q u _ (s1.trans (same_upd hu _)) (Same.fresh s1 hu) ?_
    rw [upd_same]
    show _ = some (HO.lst [.str (S (z ++ ([32, 61, 32] ++ (wE e 0 ++ [59]))))])
    simp
  | tell e =>
    obtain ⟨a, ys, rfl, hs, hv⟩ := dp_tup hd
    cases hv with
    | cons h1 hv =>
    cases hv with
    | cons h2 hv =>
    cases hv
    cases dp_str h1
    refine case_len hs (by show ¬ 2 = 3; decide) (case_1 hs ?_)
    have hz : ([116, 101, 108, 108, 32] ++ (wE e 0 ++ [59])).length + 1 ≤ BIG := by
      have : szs (rowsS (.tell e)) = ([116, 101, 108, 108, 32] ++ (wE e 0 ++ [59])).length + 0 + 1 := rfl
      omega
    simp only [List.length_append, List.length_cons, List.length_nil] at hz
    refine js_start (js_c (y := [116, 101, 108, 108, 32]) (by decide +kernel) (by simp; omega) (js_call rfl h2 hf (by simp; omega) fun H1 s1 => js_c (y := [59]) (by decide +kernel) (by simp; omega) ?_))
    refine ⟨(by show 1 ≤ sizeLine; decide), fun u hu => ?_⟩
    refine q u _ (s1.trans (same_upd hu _)) (Same.fresh s1 hu) ?_
    rw [upd_same]
    show _ = some (HO.lst [.str (S ([116, 101, 108, 108, 32] ++ (wE e 0 ++ [59])))])
    simp
  | run e =>
    obtain ⟨a, ys, rfl, hs, hv⟩ := dp_tup hd
    cases hv with
    | cons h1 hv =>
    cases hv with
    | cons h2 hv =>
    cases hv
    cases dp_str h1
    refine case_len hs (by show ¬ 2 = 3; decide) (case_tag hs (by decide +kernel) (case_len hs (by show ¬ 2 = 3; decide) (case_len hs (by show ¬ 2 = 4; decide) (case_len hs (by show ¬ 2 = 4; decide) (case_len hs (by show ¬ 2 = 3; decide) ?_)))))
    have hz : (wE e 0 ++ [59]).length + 1 ≤ BIG := by
      have : szs (rowsS (.run e)) = (wE e 0 ++ [59]).length + 0 + 1 := rfl
      omega
    simp only [List.length_append, List.length_cons, List.length_nil] at hz
    refine js_start ?_
    refine ⟨_, rfl, a, _, 1, _, rfl, rfl, hs, atI_nat (j := 1) rfl, _, e, 0, rfl, h2, hf, by omega, fun H1 s1 => .inl ⟨_, rfl, by rw [S_len]; omega, _, rfl, by rw [S_cat, S_len, List.length_append]; simp; omega, ?_⟩⟩
    rw [S_cat]
    refine js_c (y := [59]) (by decide +kernel) (by simp; omega) ?_
    refine ⟨(by show 1 ≤ sizeLine; decide), fun u hu => ?_⟩
    refine q u _ (s1.trans (same_upd hu _)) (Same.fresh s1 hu) ?_
    rw [upd_same]
    show _ = some (HO.lst [.str (S (wE e 0 ++ [59]))])
    simp
  | whil e b => exact absurd hf.1 (Nat.lt_irrefl 0)
  | each z e b => exact absurd hf.1 (Nat.lt_irrefl 0)
  | cond e b o => exact absurd hf.1 (Nat.lt_irrefl 0)
  | att b o => exact absurd hf.1 (Nat.lt_irrefl 0)
theorem ok_scalls1 (T : Txt w K mg) (kx : Nat) : Cal P w K mg base (kx + 2) (ga K "statement_calls") ["statement"] [] (spSCalls K kx 1) := by
  obtain ⟨fd, F⟩ := T.d_statement_calls
  have c_calls_of := ok_calls (P := P) (base := base) T kx
  refine cal_of F sc_statement_calls (bi_plain F (F.bindsN fun _ _ _ _ _ _ us hl => match us, hl with | [_], _ => rfl)) (by rintro vs H Q E ⟨v, s, rfl, _⟩; rfl) (fun cdv A outer s H vs Q E hr h => ?_)
  obtain ⟨v, st, rfl, hd, hf, hb, q⟩ := h
  have hr_calls_of := hr
  refine ⟨_, (pss_cons (ps_match (pv 0) (pcs_cons sc_statement_calls.nd (pm_seq rfl (pms_cons (pm_val op_eq pe_str) (pms_cons (pm_name (i := 1)) (pms_cons (pm_name (i := 2)) (pms_cons (pm_name (i := 3)) pms_nil))))) (pss_one ps_never)
 (pcs_cons sc_statement_calls.nd (pm_seq rfl (pms_cons (pm_val op_eq pe_str) (pms_cons (pm_name (i := 1)) (pms_cons (pm_name (i := 2)) pms_nil)))) (pss_one ps_never)
 (pcs_cons sc_statement_calls.nd (pm_seq rfl (pms_cons (pm_val op_eq pe_str) (pms_cons (pm_name (i := 4)) (pms_cons (pm_name (i := 5)) (pms_cons (pm_name (i := 2)) pms_nil))))) (pss_one ps_never)
 (pcs_cons sc_statement_calls.nd (pm_seq rfl (pms_cons (pm_val op_eq pe_str) (pms_cons (pm_name (i := 2)) (pms_cons (pm_name (i := 3)) pms_nil)))) (pss_one ps_never)
 pcs_nil)))))
 (pss_one (ps_ret (pe_callC c_calls_of hr_calls_of T.g_calls_of (pa_cons (pe_ix ix_tup (pv 0) (pe_un un_neg pe_int) (fun _ _ => rfl)) pa_nil))))), ?_⟩
  refine ⟨_, rfl, ?_⟩
  cases st with
  | set z e =>
    obtain ⟨a, ys, rfl, hs, hv⟩ := dp_tup hd
    cases hv with
    | cons h1 hv =>
    cases hv with
    | cons h2 hv =>
    cases hv with
    | cons h3 hv =>
    cases hv
    cases dp_str h1
    cases dp_str h2
    refine case_len hs (by show ¬ 3 = 4; decide) (case_tag hs (by decide +kernel) (case_len hs (by show ¬ 3 = 4; decide) (case_tag hs (by decide +kernel) ?_)))
    exact ⟨_, rfl, _, rfl, a, _, -1, _, rfl, rfl, hs, rfl, _, e, rfl, h3, hf, hb, q⟩
  | tell e =>
    obtain ⟨a, ys, rfl, hs, hv⟩ := dp_tup hd
    cases hv with
    | cons h1 hv =>
    cases hv with
    | cons h2 hv =>
    cases hv
    cases dp_str h1
    refine case_len hs (by show ¬ 2 = 4; decide) (case_len hs (by show ¬ 2 = 3; decide) (case_len hs (by show ¬ 2 = 4; decide) (case_len hs (by show ¬ 2 = 3; decide) ?_)))
    exact ⟨_, rfl, _, rfl, a, _, -1, _, rfl, rfl, hs, rfl, _, e, rfl, h2, hf, hb, q⟩
  | run e =>
    obtain ⟨a, ys, rfl, hs, hv⟩ := dp_tup hd
    cases hv with
    | cons h1 hv =>
    cases hv with
    | cons h2 hv =>
    cases hv
    cases dp_str h1
    refine case_len hs (by show ¬ 2 = 4; decide) (case_len hs (by show ¬ 2 = 3; decide) (case_len hs (by show ¬ 2 = 4; decide) (case_len hs (by show ¬ 2 = 3; decide) ?_)))
    exact ⟨_, rfl, _, rfl, a, _, -1, _, rfl, rfl, hs, rfl, _, e, rfl, h2, hf, hb, q⟩
  | whil e b => exact absurd hf.1 (Nat.lt_irrefl 0)
  | each z e b => exact absurd hf.1 (Nat.lt_irrefl 0)
  | cond e b o => exact absurd hf.1 (Nat.lt_irrefl 0)
  | att b o => exact absurd hf.1 (Nat.lt_irrefl 0)
end
end Lx

set_option maxHeartbeats 4000000
namespace Lx
open PySem PySem.Spec PyProof.Rows L2 He SX Tx
/-! ### scripts -/
theorem Scr.same {K : PySem.W.Frag} {H H' : Hp} {v : V} {ds : List PyData} (R : Scr K H v ds) (s : Same H H') : Scr K H' v ds := by
  obtain ⟨p, dx, a, vs, e, hp, hs, hd⟩ := R
  exact ⟨p, dx, a, vs, e, s _ _ hp, sqT_same s hs, dpa_same s hd⟩
def okS (kx m : Nat) (ss : List St) : Prop := (∀ s ∈ ss, fitS kx m s) ∧ szs (rowsL ss) ≤ BIG ∧ (callL ss).length ≤ BIG
def strS (ss : List St) : List Nat := TL.joinL [10] (rowsL ss)
def spStr (K : PySem.W.Frag) (kx m : Nat) : Sp := fun vs H Q _ => ∃ (v : V) (ss : List St), vs = [v] ∧ Scr K H v (stsD ss) ∧ okS kx m ss ∧ ∀ H', Same H H' → Q (.str (S (strS ss))) H'
def spLen (K : PySem.W.Frag) : Sp := fun vs H Q _ => ∃ (v : V) (ss : List St), vs = [v] ∧ Scr K H v (stsD ss) ∧ Q (.int ss.length) H
def spContains (K : PySem.W.Frag) (kx m : Nat) : Sp := fun vs H Q _ => ∃ (v : V) (z : List Nat) (ss : List St), vs = [v, .str (S z)] ∧ Scr K H v (stsD ss) ∧ okS kx m ss ∧ ∀ H', Same H H' → Q (.bl (decide (z ∈ callL ss))) H'
def spWords (K : PySem.W.Frag) (kx m : Nat) : SpG := fun vs H Q _ => ∃ (v : V) (ss : List St), vs = [v] ∧ Scr K H v (stsD ss) ∧ okS kx m ss ∧ ∀ H', Same H H' → Q ((callL ss).map fun x => V.str (S x)) H'
def spEq (K : PySem.W.Frag) : Sp := fun vs H Q _ => ∃ (v y : V) (ss : List St), vs = [v, y] ∧ Scr K H v (stsD ss) ∧ SeqAt.shaped (.tuple (stsD ss)) = true ∧ ((∃ z, y = .str z ∧ Q (.bl false) H) ∨ ∃ st, Scr K H y (stsD st) ∧ SeqAt.shaped (.tuple (stsD st)) = true ∧ Q (.bl (PyData.eqv (.tuple (stsD ss)) (.tuple (stsD st)))) H)
section
variable {P : Program} {w : World} {K : PySem.W.Frag} {mg : Str → Option Value} {base : Heap}
theorem ok_len (T : Txt w K mg) : Cal P w K mg base 1 (ma K (ga K "Script") "__len__") ["self"] [] (spLen K) := by
  obtain ⟨fd, F⟩ := T.d_Script___len__
  refine cal_of F sc_Script___len__ (bi_plain F (F.bindsN fun _ _ _ _ _ _ us hl => match us, hl with | [_], _ => rfl)) (by rintro vs H Q E ⟨v, ss, rfl, _⟩; rfl) (fun cdv A outer s H vs Q E hr h => ?_)
  obtain ⟨v, ss, rfl, ⟨p, dx, a, ys, rfl, hp, hs, hd⟩, q⟩ := h
  refine ⟨_, (pss_one (ps_ret (pe_callB call_len_seq (by rfl) T.n_len PySem.boot_len (pa_cons (pe_fld (pv 0) rfl) pa_nil)))), ?_⟩
  refine ⟨_, rfl, p, _, dx, _, _, rfl, hp, T.k_Script, T.na_Script_statements, rfl, a, ys, rfl, .inr hs, ?_⟩
  have e : ys.length = ss.length := by rw [dpa_len hd, stsD_len]
  rw [e]
  exact q
theorem ok_str (T : Txt w K mg) {kx m L : Nat} (c_block_rows : Cal P w K mg base L (ga K "block_rows") ["block"] [] (spBlockRows K kx m)) : Cal P w K mg base (L + 1) (ma K (ga K "Script") "__str__") ["self"] [] (spStr K kx m) := by
  obtain ⟨fd, F⟩ := T.d_Script___str__
  refine cal_of F sc_Script___str__ (bi_plain F (F.bindsN fun _ _ _ _ _ _ us hl => match us, hl with | [_], _ => rfl)) (by rintro vs H Q E ⟨v, ss, rfl, _⟩; rfl) (fun cdv A outer s H vs Q E hr h => ?_)
  obtain ⟨v, ss, rfl, ⟨p, dx, a, ys, rfl, hp, hs, hd⟩, ok, q⟩ := h
  have hr_block_rows := hr
  refine ⟨_, (pss_one (ps_ret (pe_bm PySem.F.plainAttrs_str PySem.F.slot_str_join PySem.F.type_str_join mt_join pe_str (pa_cons (pe_callC c_block_rows hr_block_rows T.g_block_rows (pa_cons (pe_fld (pv 0) rfl) pa_nil)) pa_nil)))), ?_⟩
  refine ⟨rfl, _, rfl, p, _, dx, _, _, rfl, hp, T.k_Script, T.na_Script_statements, rfl, _, ss, rfl, .tup hs hd, ok.1, ok.2.1, fun D H1 s1 hD iD => ?_⟩
  refine ⟨"\n", D, (rowsL ss).map S, rfl, rfl, .inl (SqL.of (by rw [List.map_map]; exact iD)), ?_, ?_⟩
  · rw [lens_S, List.length_map, show (("\n" : Str)).length = 1 by decide +kernel, Nat.mul_one]
    have h2 := ok.2.1
    have bl := big_le
    have : (16777216 : Nat) = sizeLine := rfl
    unfold szs at h2
    omega
  rw [show ("\n" : Str) = S [10] by decide +kernel, join_S]
  exact q _ s1
theorem ok_contains (T : Txt w K mg) {kx m L : Nat} (c_block_calls : Cal P w K mg base L (ga K "block_calls") ["block"] [] (spBlockCalls K kx m)) : Cal P w K mg base (L + 1) (ma K (ga K "Script") "__contains__") ["self", "word"] [] (spContains K kx m) := by
  obtain ⟨fd, F⟩ := T.d_Script___contains__
  refine cal_of F sc_Script___contains__ (bi_plain F (F.bindsN fun _ _ _ _ _ _ us hl => match us, hl with | [_, _], _ => rfl)) (by rintro vs H Q E ⟨v, z, ss, rfl, _⟩; rfl) (fun cdv A outer s H vs Q E hr h => ?_)
  obtain ⟨v, z, ss, rfl, ⟨p, dx, a, ys, rfl, hp, hs, hd⟩, ok, q⟩ := h
  have hr_block_calls := hr
  refine ⟨_, (pss_one (ps_ret (pe_cmpR op_in_seq (pv 1) (pe_callC c_block_calls hr_block_calls T.g_block_calls (pa_cons (pe_fld (pv 0) rfl) pa_nil)) (by rfl)))), ?_⟩
  refine ⟨_, rfl, _, rfl, p, _, dx, _, _, rfl, hp, T.k_Script, T.na_Script_statements, rfl, _, ss, rfl, .tup hs hd, ok.1, ok.2.2, fun D H1 s1 hD iD => ?_⟩
  refine ⟨D, _, rfl, .inl (SqL.of iD), rfl, ?_, ?_⟩
  · have e := flat_strs ((callL ss).map S)
    rw [List.map_map] at e
    exact e
  have e : inV (.str (S z)) ((callL ss).map fun x => V.str (S x)) = decide (z ∈ callL ss) := by
    have e2 := in_strs (S z) ((callL ss).map S)
    rw [List.map_map] at e2
    refine e2.trans ?_
    congr 1
    refine propext ⟨fun h => ?_, fun h => List.mem_map.mpr ⟨z, h, rfl⟩⟩
    obtain ⟨y, hy, ey⟩ := List.mem_map.mp h
    rw [← S_inj ey]
    exact hy
  refine (show Q (.bl (inV (.str (S z)) ((callL ss).map fun x => V.str (S x)))) H1 from ?_)
  rw [e]
  exact q _ s1
theorem ok_words (T : Txt w K mg) {kx m L : Nat} (c_block_calls : Cal P w K mg base L (ga K "block_calls") ["block"] [] (spBlockCalls K kx m)) : GCal P w K mg base (L + 1) (ma K (ga K "Script") "call_words") ["self"] [] (spWords K kx m) := by
  obtain ⟨fd, F⟩ := T.d_Script_call_words
  refine gcal_of F sc_Script_call_words (bi_plain F (F.bindsN fun _ _ _ _ _ _ us hl => match us, hl with | [_], _ => rfl)) (by rintro vs H Q E ⟨v, ss, rfl, _⟩; rfl) (fun cdv A outer s H vs Q E pn hr h => ?_)
  obtain ⟨v, ss, rfl, ⟨p, dx, a, ys, rfl, hp, hs, hd⟩, ok, q⟩ := h
  have hr_block_calls := hr
  refine ⟨_, (gss_cons (gs_yieldFrom (yf_lst (pe_callC c_block_calls hr_block_calls T.g_block_calls (pa_cons (pe_fld (pv 0) rfl) pa_nil))) hr.hd)
 gss_nil), ?_⟩
  refine ⟨_, rfl, p, _, dx, _, _, rfl, hp, T.k_Script, T.na_Script_statements, rfl, _, ss, rfl, .tup hs hd, ok.1, ok.2.2, fun D H1 s1 hD iD => ⟨D, _, rfl, iD, ?_⟩⟩
  have bl := big_le
  have h3 := ok.2.2
  exact ⟨by rw [List.length_map]; show 0 + _ ≤ sizeLine; omega, q _ s1⟩
theorem ok_eq (T : Txt w K mg) : Cal P w K mg base 1 (ma K (ga K "Script") "__eq__") ["self", "other"] [] (spEq K) := by
  obtain ⟨fd, F⟩ := T.d_Script___eq__
  refine cal_of F sc_Script___eq__ (bi_plain F (F.bindsN fun _ _ _ _ _ _ us hl => match us, hl with | [_, _], _ => rfl)) (by rintro vs H Q E ⟨v, y, ss, rfl, _⟩; rfl) (fun cdv A outer s H vs Q E hr h => ?_)
  obtain ⟨v, y, ss, rfl, ⟨p, dx, a, ys, rfl, hp, hs, hd⟩, sh, q⟩ := h
  refine ⟨_, (pss_one (ps_ret (pe_and (pe_callB call_isi (by rfl) T.n_isinstance (by decide +kernel) (pa_cons (pv 1) (pa_cons (pe_gR T.g_Script) pa_nil))) (pe_one (pe_cmpR (op_eqD hr.units) (pe_fld (pv 0) rfl) (pe_fld (pv 1) rfl) (nomark _)))))), ?_⟩
  rcases q with ⟨z, rfl, q⟩ | ⟨st, ⟨p2, dx2, a2, ys2, rfl, hp2, hs2, hd2⟩, sh2, q⟩
  · refine ⟨_, rfl, _, _, _, _, false, rfl, .own _, .base (.str z), T.is_Script, ?_⟩
    exact ⟨_, rfl, iteF q⟩
  · refine ⟨_, rfl, _, _, _, _, true, rfl, .own _, .base (.ins hp2 T.ic_Script.cl T.ic_Script.ha T.ic_Script.hn T.ic_Script.htk T.ic_Script.hm), T.ic_Script.me, ?_⟩
    refine ⟨_, rfl, iteT' rfl ?_⟩
    exact ⟨_, rfl, p, _, dx, _, _, rfl, hp, T.k_Script, T.na_Script_statements, rfl, _, rfl, p2, _, dx2, _, _, rfl, hp2, T.k_Script, T.na_Script_statements, rfl, _, _, .tup hs hd, .tup hs2 hd2, sh, sh2, q⟩
end
end Lx

set_option maxHeartbeats 4000000
namespace Lx
open PySem PySem.Spec PyProof.Rows L2 He SX Tx
/-! ### the law's draws -/
def spMixed : Sp := fun vs H Q _ => ∃ n : Int, vs = [.int n] ∧ ∀ r : Int, 0 ≤ r → r < 2147483629 → Q (.int r) H
/-- the state of the draws at a: c draws at most were made -/
def DrawSt (K : PySem.W.Frag) (H : Hp) (a : Addr) (c : Nat) : Prop := ∃ (l : Addr) (ns : List Int) (pos : Nat) (carry : Int) (cnt left : Nat) (seed : Int), H a = some (.lst [.ref l, .int pos, .int carry, .int cnt, .int left, .int seed]) ∧ SqL K H l (ns.map V.int) ∧ l ≠ a ∧ cnt ≤ c ∧ 0 ≤ seed ∧ seed < 1000003
def spDraw (K : PySem.W.Frag) : Sp := fun vs H Q _ => ∃ (a : Addr) (many c : Nat), vs = [.ref a, .int many] ∧ 0 < many ∧ many < 2 ^ 64 ∧ c ≤ 1000000 ∧ DrawSt K H a c ∧ ∀ (r : Nat) H', r < many → But a H H' → DrawSt K H' a (c + 1) → Q (.int r) H'
theorem sqL_ne {K : PySem.W.Frag} {H H' : Hp} {p a : Addr} {xs : List V} (z : a ≠ p) (e : But p H H') (h : SqL K H a xs) : SqL K H' a xs := by
  rcases h with h | h
  · rcases h with h | ⟨o, h⟩
    · exact .inl (.inl (e _ _ z h))
    · exact .inl (.inr ⟨o, e _ _ z h⟩)
  · exact .inr h
section
variable {P : Program} {w : World} {K : PySem.W.Frag} {mg : Str → Option Value} {base : Heap}
theorem ok_mixed (T : Txt w K mg) : Cal P w K mg base 1 (ga K "_law_mixed") ["number"] [] spMixed := by
  obtain ⟨fd, F⟩ := T.d__law_mixed
  refine cal_of F sc__law_mixed (bi_plain F (F.bindsN fun _ _ _ _ _ _ us hl => match us, hl with | [_], _ => rfl)) (by rintro vs H Q E ⟨n, rfl, _⟩; rfl) (fun cdv A outer s H vs Q E hr h => ?_)
  obtain ⟨n, rfl, q⟩ := h
  refine ⟨_, (pss_cons (ps_set (i := 0) sc__law_mixed.nd rfl (Or.inl rfl) (pe_op op_mod (pe_op op_add (pe_op op_mul (pe_op op_mod (pv 0) pe_int) pe_int) pe_int) pe_int))
 (pss_one (ps_ret (pe_op op_mod (pe_op op_add (pe_op op_mul (pv 0) (pv 0)) (pe_op op_mul pe_int (pv 0))) pe_int)))), ?_⟩
  have h1 := Int.emod_nonneg n (by decide : (2147483647 : Int) ≠ 0)
  have h2 := Int.emod_lt_of_pos n (by decide : (0 : Int) < 2147483647)
  refine ⟨_, rfl, _, _, rfl, rfl, (by show (0 : Int) < 2147483647; decide), _, _, rfl, rfl, .inr (by decide), _, _, rfl, rfl, _, _, rfl, rfl, (by show (0 : Int) < 2147483647; decide), ?_⟩
  have h3 := Int.emod_nonneg (n % 2147483647 * 48271 + 11) (by decide : (2147483647 : Int) ≠ 0)
  have h4 := Int.emod_lt_of_pos (n % 2147483647 * 48271 + 11) (by decide : (0 : Int) < 2147483647)
  generalize (n % 2147483647 * 48271 + 11) % 2147483647 = m at h3 h4 ⊢
  refine ⟨_, rfl, _, rfl, _, _, rfl, rfl, .inl ⟨by omega, by omega⟩, _, rfl, _, _, rfl, rfl, .inl (by decide), _, _, rfl, rfl, _, _, rfl, rfl, (by show (0 : Int) < 2147483629; decide), ?_⟩
  exact q _ (Int.emod_nonneg _ (by decide)) (Int.emod_lt_of_pos _ (by decide))
theorem ok_draw (T : Txt w K mg) : Cal P w K mg base 2 (ga K "_law_draw") ["state", "many"] [] (spDraw K) := by
  obtain ⟨fd, F⟩ := T.d__law_draw
  have c__law_mixed := ok_mixed (P := P) (base := base) T
  refine cal_of F sc__law_draw (bi_plain F (F.bindsN fun _ _ _ _ _ _ us hl => match us, hl with | [_, _], _ => rfl)) (by rintro vs H Q E ⟨a, many, c, rfl, _⟩; rfl) (fun cdv A outer s H vs Q E hr h => ?_)
  obtain ⟨a, many, c, rfl, hm0, hm, hc, D, q⟩ := h
  have hr__law_mixed := hr
  refine ⟨_, (pss_cons (ps_asg (pe_op op_add (pe_ix ix_list (pv 0) pe_int (fun _ _ => rfl)) pe_int) (pg_sub (pv 0) pe_int set_list))
 (pss_cons (ps_if (pt_cmpR op_gt (pe_ix ix_list (pv 0) pe_int (fun _ _ => rfl)) pe_int (nomark _))
 (pss_cons (ps_set (i := 2) sc__law_draw.nd rfl (Or.inl rfl) (pe_op op_mod (pe_ix ix_list (pv 0) pe_int (fun _ _ => rfl)) (pv 1)))
 (pss_cons (ps_asg (pe_op op_fdivW (pe_ix ix_list (pv 0) pe_int (fun _ _ => rfl)) (pv 1)) (pg_sub (pv 0) pe_int set_list))
 (pss_one (ps_ret (pv 2)))))
 pss_nil)
 (pss_cons (ps_if (pt_cmpR op_gt (pe_ix ix_list (pv 0) pe_int (fun _ _ => rfl)) pe_int (nomark _))
 (pss_one (ps_asg (pe_op op_sub (pe_ix ix_list (pv 0) pe_int (fun _ _ => rfl)) pe_int) (pg_sub (pv 0) pe_int set_list)))
 (pss_one (ps_if (pt_cmpR op_lt (pe_ix ix_list (pv 0) pe_int (fun _ _ => rfl)) (pe_callB call_len_seq (by rfl) T.n_len PySem.boot_len (pa_cons (pe_ix ix_list (pv 0) pe_int (fun _ _ => rfl)) pa_nil)) (nomark _))
 (pss_cons (ps_set (i := 3) sc__law_draw.nd rfl (Or.inl rfl) (pe_ix ix_list (pe_ix ix_list (pv 0) pe_int (fun _ _ => rfl)) (pe_ix ix_list (pv 0) pe_int (fun _ _ => rfl)) (fun _ _ => rfl)))
 (pss_cons (ps_asg (pe_op op_add (pe_ix ix_list (pv 0) pe_int (fun _ _ => rfl)) pe_int) (pg_sub (pv 0) pe_int set_list))
 (pss_cons (ps_if (pt_cmpR op_ge (pv 3) (pe_op op_pow pe_int pe_int) (nomark _))
 (pss_cons (ps_asg (pe_op op_fdivW (pv 3) (pv 1)) (pg_sub (pv 0) pe_int set_list))
 (pss_one (ps_ret (pe_op op_mod (pv 3) (pv 1)))))
 pss_nil)
 (pss_cons (ps_asg pe_int (pg_sub (pv 0) pe_int set_list))
 (pss_one (ps_asg (pe_op op_mod (pv 3) pe_int) (pg_sub (pv 0) pe_int set_list)))))))
 pss_nil)))
 (pss_one (ps_ret (pe_op op_mod (pe_callC c__law_mixed hr__law_mixed T.g__law_mixed (pa_cons (pe_op op_add (pe_op op_mul (pe_ix ix_list (pv 0) pe_int (fun _ _ => rfl)) pe_int) (pe_op op_mul (pe_ix ix_list (pv 0) pe_int (fun _ _ => rfl)) pe_int)) pa_nil)) (pv 1))))))), ?_⟩
  obtain ⟨l, ns, pos, carry, cnt, left, seed, ha, hl, hla, hcc, hs0, hs1⟩ := D
  refine ⟨_, rfl, a, _, 3, _, rfl, rfl, SqL.of ha, atI_nat (j := 3) rfl, _, _, rfl, rfl, ?_⟩
  refine ⟨_, rfl, a, _, 3, 3, rfl, rfl, ha, rfl, ?_⟩
  have b1 : But a H (upd H a (.lst (List.set [.ref l, .int pos, .int carry, .int cnt, .int left, .int seed] 3 (.int ((cnt : Int) + 1))))) := but_upd _
  have h1 : (upd H a (.lst (List.set [.ref l, .int pos, .int carry, .int cnt, .int left, .int seed] 3 (.int ((cnt : Int) + 1))))) a = some (.lst [.ref l, .int pos, .int carry, .int ((cnt + 1 : Nat) : Int), .int left, .int seed]) := upd_same
  generalize upd H a (.lst (List.set [.ref l, .int pos, .int carry, .int cnt, .int left, .int seed] 3 (.int ((cnt : Int) + 1)))) = H1 at b1 h1 ⊢
  refine ⟨_, rfl, a, _, 2, _, rfl, rfl, SqL.of h1, atI_nat (j := 2) rfl, _, _, rfl, rfl, _, rfl, ite2 (fun hcar => ?_) (fun _ => ?_)⟩
  · refine ⟨_, rfl, a, _, 2, _, rfl, rfl, SqL.of h1, atI_nat (j := 2) rfl, _, rfl, _, _, rfl, rfl, by omega, ?_⟩
    refine ⟨_, rfl, a, _, 2, _, rfl, rfl, SqL.of h1, atI_nat (j := 2) rfl, _, rfl, _, _, rfl, rfl, wide_div (b := 64) (by omega) (by omega) (by decide) (by decide), ?_⟩
    refine ⟨_, rfl, a, _, 2, 2, rfl, rfl, h1, rfl, ?_⟩
    have z0 := Int.emod_nonneg carry (by omega : (many : Int) ≠ 0)
    have z1 := Int.emod_lt_of_pos carry (by omega : (0 : Int) < many)
    have z2 : ((carry % (many : Int)).toNat : Int) = carry % (many : Int) := Int.toNat_of_nonneg z0
    have b2 := b1.trans (but_upd (.lst (List.set [.ref l, .int pos, .int carry, .int ((cnt + 1 : Nat) : Int), .int left, .int seed] 2 (.int (carry / (many : Int))))))
    have z3 := q (carry % (many : Int)).toNat _ (by omega) b2 ⟨l, ns, pos, carry / (many : Int), cnt + 1, left, seed, upd_same, sqL_ne hla b2 hl, hla, by omega, hs0, hs1⟩
    rw [z2] at z3
    exact ⟨_, rfl, z3⟩
  refine ⟨_, rfl, a, _, 4, _, rfl, rfl, SqL.of h1, atI_nat (j := 4) rfl, _, _, rfl, rfl, _, rfl, ite2 (fun hlf => ?_) (fun _ => ?_)⟩
  · have hlf := of_decide_eq_true hlf
    refine ⟨_, rfl, a, _, 4, _, rfl, rfl, SqL.of h1, atI_nat (j := 4) rfl, _, _, rfl, rfl, ?_⟩
    refine ⟨_, rfl, a, _, 4, 4, rfl, rfl, h1, rfl, ?_⟩
    have b2 := b1.trans (but_upd (.lst (List.set [.ref l, .int pos, .int carry, .int ((cnt + 1 : Nat) : Int), .int left, .int seed] 4 (.int ((left : Int) - 1)))))
    have h2 : (upd H1 a (.lst (List.set [.ref l, .int pos, .int carry, .int ((cnt + 1 : Nat) : Int), .int left, .int seed] 4 (.int ((left : Int) - 1))))) a = some (.lst [.ref l, .int pos, .int carry, .int ((cnt + 1 : Nat) : Int), .int ((left - 1 : Nat) : Int), .int seed]) := by
      rw [upd_same]
      show some (HO.lst [.ref l, .int pos, .int carry, .int ((cnt + 1 : Nat) : Int), .int ((left : Int) - 1), .int seed]) = _
      rw [show ((left : Int) - 1) = ((left - 1 : Nat) : Int) by omega]
    generalize upd H1 a (.lst (List.set [.ref l, .int pos, .int carry, .int ((cnt + 1 : Nat) : Int), .int left, .int seed] 4 (.int ((left : Int) - 1)))) = H2 at b2 h2 ⊢
    refine ⟨_, rfl, a, _, 5, _, rfl, rfl, SqL.of h2, atI_nat (j := 5) rfl, _, _, rfl, rfl, .inr (by decide), _, rfl, a, _, 3, _, rfl, rfl, SqL.of h2, atI_nat (j := 3) rfl, _, _, rfl, rfl, .inr (by decide), _, _, rfl, rfl, _, rfl, fun r0 hr0 hr1 => ?_⟩
    refine ⟨_, rfl, _, _, rfl, rfl, by omega, ?_⟩
    have z0 := Int.emod_nonneg r0 (by omega : (many : Int) ≠ 0)
    have z1 := Int.emod_lt_of_pos r0 (by omega : (0 : Int) < many)
    have z2 : ((r0 % (many : Int)).toNat : Int) = r0 % (many : Int) := Int.toNat_of_nonneg z0
    have z3 := q (r0 % (many : Int)).toNat _ (by omega) b2 ⟨l, ns, pos, carry, cnt + 1, left - 1, seed, h2, sqL_ne hla b2 hl, hla, by omega, hs0, hs1⟩
    rw [z2] at z3
    exact z3
  have hl1 := sqL_ne hla b1 hl
  refine ⟨_, rfl, a, _, 1, _, rfl, rfl, SqL.of h1, atI_nat (j := 1) rfl, _, rfl, a, _, 0, _, rfl, rfl, SqL.of h1, atI_nat (j := 0) rfl, l, _, rfl, .inl hl1, _, _, rfl, rfl, _, rfl, ite2 (fun hlt => ?_) (fun _ => ?_)⟩
  · have hlt : pos < ns.length := by
      have z := of_decide_eq_true hlt
      rw [List.length_map] at z
      omega
    have hg : (ns.map V.int)[pos]? = some (.int ns[pos]) := by rw [List.getElem?_map, List.getElem?_eq_getElem hlt]; rfl
    refine ⟨_, rfl, a, _, 0, _, rfl, rfl, SqL.of h1, atI_nat (j := 0) rfl, _, rfl, a, _, 1, _, rfl, rfl, SqL.of h1, atI_nat (j := 1) rfl, l, _, pos, _, rfl, rfl, hl1, atI_nat (j := pos) hg, ?_⟩
    generalize ns[pos] = cell at hg ⊢
    refine ⟨_, rfl, a, _, 1, _, rfl, rfl, SqL.of h1, atI_nat (j := 1) rfl, _, _, rfl, rfl, ?_⟩
    refine ⟨_, rfl, a, _, 1, 1, rfl, rfl, h1, rfl, ?_⟩
    have b2 := b1.trans (but_upd (.lst (List.set [.ref l, .int pos, .int carry, .int ((cnt + 1 : Nat) : Int), .int left, .int seed] 1 (.int ((pos : Int) + 1)))))
    have h2 : (upd H1 a (.lst (List.set [.ref l, .int pos, .int carry, .int ((cnt + 1 : Nat) : Int), .int left, .int seed] 1 (.int ((pos : Int) + 1))))) a = some (.lst [.ref l, .int ((pos + 1 : Nat) : Int), .int carry, .int ((cnt + 1 : Nat) : Int), .int left, .int seed]) := upd_same
    generalize upd H1 a (.lst (List.set [.ref l, .int pos, .int carry, .int ((cnt + 1 : Nat) : Int), .int left, .int seed] 1 (.int ((pos : Int) + 1)))) = H2 at b2 h2 ⊢
    refine ⟨_, rfl, _, _, rfl, rfl, (by show (0 : Int) ≤ 18 ∧ (18 : Int) ≤ 1000000 ∧ (10 : Int).natAbs < 2 ^ 64; decide), _, _, rfl, rfl, _, rfl, ite2 (fun hcl => ?_) (fun _ => ?_)⟩
    · refine ⟨_, rfl, _, rfl, _, _, rfl, rfl, wide_div (b := 64) (by omega) (by omega) (by decide) (by decide), ?_⟩
      refine ⟨_, rfl, a, _, 2, 2, rfl, rfl, h2, rfl, ?_⟩
      have b3 := b2.trans (but_upd (.lst (List.set [.ref l, .int ((pos + 1 : Nat) : Int), .int carry, .int ((cnt + 1 : Nat) : Int), .int left, .int seed] 2 (.int (cell / (many : Int))))))
      have h3 : (upd H2 a (.lst (List.set [.ref l, .int ((pos + 1 : Nat) : Int), .int carry, .int ((cnt + 1 : Nat) : Int), .int left, .int seed] 2 (.int (cell / (many : Int)))))) a = some (.lst [.ref l, .int ((pos + 1 : Nat) : Int), .int (cell / (many : Int)), .int ((cnt + 1 : Nat) : Int), .int left, .int seed]) := upd_same
      generalize upd H2 a (.lst (List.set [.ref l, .int ((pos + 1 : Nat) : Int), .int carry, .int ((cnt + 1 : Nat) : Int), .int left, .int seed] 2 (.int (cell / (many : Int))))) = H3 at b3 h3 ⊢
      have z0 := Int.emod_nonneg cell (by omega : (many : Int) ≠ 0)
      have z1 := Int.emod_lt_of_pos cell (by omega : (0 : Int) < many)
      have z2 : ((cell % (many : Int)).toNat : Int) = cell % (many : Int) := Int.toNat_of_nonneg z0
      have z3 := q (cell % (many : Int)).toNat _ (by omega) b3 ⟨l, ns, pos + 1, cell / (many : Int), cnt + 1, left, seed, h3, sqL_ne hla b3 hl, hla, by omega, hs0, hs1⟩
      rw [z2] at z3
      exact ⟨_, rfl, _, rfl, _, _, rfl, rfl, by omega, z3⟩
    refine ⟨_, rfl, a, _, 4, 4, rfl, rfl, h2, rfl, ?_⟩
    have b3 := b2.trans (but_upd (.lst (List.set [.ref l, .int ((pos + 1 : Nat) : Int), .int carry, .int ((cnt + 1 : Nat) : Int), .int left, .int seed] 4 (.int 3))))
    have h3 : (upd H2 a (.lst (List.set [.ref l, .int ((pos + 1 : Nat) : Int), .int carry, .int ((cnt + 1 : Nat) : Int), .int left, .int seed] 4 (.int 3)))) a = some (.lst [.ref l, .int ((pos + 1 : Nat) : Int), .int carry, .int ((cnt + 1 : Nat) : Int), .int ((3 : Nat) : Int), .int seed]) := upd_same
    generalize upd H2 a (.lst (List.set [.ref l, .int ((pos + 1 : Nat) : Int), .int carry, .int ((cnt + 1 : Nat) : Int), .int left, .int seed] 4 (.int 3))) = H3 at b3 h3 ⊢
    refine ⟨_, rfl, _, _, rfl, rfl, (by show (0 : Int) < 1000003; decide), ?_⟩
    refine ⟨_, rfl, a, _, 5, 5, rfl, rfl, h3, rfl, ?_⟩
    have b4 := b3.trans (but_upd (.lst (List.set [.ref l, .int ((pos + 1 : Nat) : Int), .int carry, .int ((cnt + 1 : Nat) : Int), .int ((3 : Nat) : Int), .int seed] 5 (.int (cell % 1000003)))))
    have h4 : (upd H3 a (.lst (List.set [.ref l, .int ((pos + 1 : Nat) : Int), .int carry, .int ((cnt + 1 : Nat) : Int), .int ((3 : Nat) : Int), .int seed] 5 (.int (cell % 1000003))))) a = some (.lst [.ref l, .int ((pos + 1 : Nat) : Int), .int carry, .int ((cnt + 1 : Nat) : Int), .int ((3 : Nat) : Int), .int (cell % 1000003)]) := upd_same
    generalize upd H3 a (.lst (List.set [.ref l, .int ((pos + 1 : Nat) : Int), .int carry, .int ((cnt + 1 : Nat) : Int), .int ((3 : Nat) : Int), .int seed] 5 (.int (cell % 1000003)))) = H4 at b4 h4 ⊢
    have y0 := Int.emod_nonneg cell (by decide : (1000003 : Int) ≠ 0)
    have y1 := Int.emod_lt_of_pos cell (by decide : (0 : Int) < 1000003)
    refine ⟨_, rfl, a, _, 5, _, rfl, rfl, SqL.of h4, atI_nat (j := 5) rfl, _, _, rfl, rfl, .inr (by decide), _, rfl, a, _, 3, _, rfl, rfl, SqL.of h4, atI_nat (j := 3) rfl, _, _, rfl, rfl, .inr (by decide), _, _, rfl, rfl, _, rfl, fun r0 hr0 hr1 => ?_⟩
    refine ⟨_, rfl, _, _, rfl, rfl, by omega, ?_⟩
    have z0 := Int.emod_nonneg r0 (by omega : (many : Int) ≠ 0)
    have z1 := Int.emod_lt_of_pos r0 (by omega : (0 : Int) < many)
    have z2 : ((r0 % (many : Int)).toNat : Int) = r0 % (many : Int) := Int.toNat_of_nonneg z0
    have z3 := q (r0 % (many : Int)).toNat _ (by omega) b4 ⟨l, ns, pos + 1, carry, cnt + 1, 3, cell % 1000003, h4, sqL_ne hla b4 hl, hla, by omega, y0, y1⟩
    rw [z2] at z3
    exact z3

  refine ⟨_, rfl, a, _, 5, _, rfl, rfl, SqL.of h1, atI_nat (j := 5) rfl, _, _, rfl, rfl, .inr (by decide), _, rfl, a, _, 3, _, rfl, rfl, SqL.of h1, atI_nat (j := 3) rfl, _, _, rfl, rfl, .inr (by decide), _, _, rfl, rfl, _, rfl, fun r0 hr0 hr1 => ?_⟩
  refine ⟨_, rfl, _, _, rfl, rfl, by omega, ?_⟩
  have z0 := Int.emod_nonneg r0 (by omega : (many : Int) ≠ 0)
  have z1 := Int.emod_lt_of_pos r0 (by omega : (0 : Int) < many)
  have z2 : ((r0 % (many : Int)).toNat : Int) = r0 % (many : Int) := Int.toNat_of_nonneg z0
  have z3 := q (r0 % (many : Int)).toNat _ (by omega) b1 ⟨l, ns, pos, carry, cnt + 1, left, seed, h1, sqL_ne hla b1 hl, hla, by omega, hs0, hs1⟩
  rw [z2] at z3
  exact z3
end
end Lx

set_option maxHeartbeats 4000000
namespace Lx
open PySem PySem.Spec PyProof.Rows L2 He SX Tx
/-! ### what the law draws -/
theorem DrawSt.mono {K : PySem.W.Frag} {H : Hp} {a : Addr} {c d : Nat} (D : DrawSt K H a c) (h : c ≤ d) : DrawSt K H a d := by
  obtain ⟨l, ns, pos, carry, cnt, left, seed, ha, hl, hla, hcc, hs0, hs1⟩ := D
  exact ⟨l, ns, pos, carry, cnt, left, seed, ha, hl, hla, Nat.le_trans hcc h, hs0, hs1⟩
theorem DrawSt.same {K : PySem.W.Frag} {H H' : Hp} {a : Addr} {c : Nat} (D : DrawSt K H a c) (s : Same H H') : DrawSt K H' a c := by
  obtain ⟨l, ns, pos, carry, cnt, left, seed, ha, hl, hla, hcc, hs0, hs1⟩ := D
  exact ⟨l, ns, pos, carry, cnt, left, seed, s _ _ ha, s.seq hl, hla, hcc, hs0, hs1⟩
def WLT : List Nat := [97, 98, 99, 100, 101, 102, 103, 104, 105, 106, 107, 108, 109, 110, 111, 112, 113, 114, 115, 116, 117, 118, 119, 120, 121, 122, 48, 49, 50, 51, 52, 53, 54, 55, 56, 57, 95]
structure WordOk (z : List Nat) : Prop where
  ne : ∀ c ∈ z.head?, c ∈ LET
  all : ∀ c ∈ z, c ∈ WCH
  len : 1 ≤ z.length ∧ z.length ≤ 8
  kw : ¬ S z ∈ KWS
def TXS : List Nat := [32, 33, 35, 36, 38, 39, 40, 41, 42, 43, 44, 45, 46, 47, 48, 49, 50, 51, 52, 53, 54, 55, 56, 57, 58, 59, 60, 61, 62, 63, 64, 65, 66, 67, 88, 89, 90, 91, 92, 93, 94, 95, 96, 97, 98, 99, 120, 121, 122, 123, 124, 125, 126]
structure TextOk (z : List Nat) : Prop where
  all : ∀ c ∈ z, 32 ≤ c ∧ c ≤ 126 ∧ c ≠ 34
  len : z.length ≤ 8
def OpdOk (e : Ex) : Prop := (∃ n, n < 10 ^ 18 ∧ e = .num n) ∨ (∃ l, TextOk l ∧ e = .txt l) ∨ ∃ z, WordOk z ∧ e = .var z
def spTx (K : PySem.W.Frag) : Sp := fun vs H Q _ => ∃ (a : Addr) (c : Nat), vs = [.ref a] ∧ c ≤ 900000 ∧ DrawSt K H a c ∧ ∀ z H', TextOk z → But a H H' → DrawSt K H' a (c + 10) → Q (.str (S z)) H'
def spOpd (K : PySem.W.Frag) : Sp := fun vs H Q _ => ∃ (a : Addr) (c : Nat), vs = [.ref a] ∧ c ≤ 800000 ∧ DrawSt K H a c ∧ ∀ e H', OpdOk e → But a H H' → DrawSt K H' a (c + 20) → Q (.str (S (wE e 0))) H'
def SPS : List Nat := [32, 10, 9]
def spSpace (K : PySem.W.Frag) : Sp := fun vs H Q _ => ∃ (a : Addr) (least c : Nat), vs = [.ref a, .int least] ∧ least ≤ 1 ∧ c ≤ 900000 ∧ DrawSt K H a c ∧ ∀ z H', (∀ x ∈ z, x ∈ SPS) → least ≤ z.length → z.length ≤ 3 → But a H H' → DrawSt K H' a (c + 10) → Q (.str (S z)) H'
def spState (K : PySem.W.Frag) : Sp := fun vs H Q _ => ∃ (l : Addr) (ns : List Int), vs = [.ref l] ∧ SqL K H l (ns.map V.int) ∧ ∀ a H', Same H H' → H a = none → DrawSt K H' a 0 → Q (.ref a) H'
def spWord (K : PySem.W.Frag) : Sp := fun vs H Q _ => ∃ (a : Addr) (c : Nat), vs = [.ref a] ∧ c ≤ 900000 ∧ DrawSt K H a c ∧ ∀ z H', WordOk z → But a H H' → DrawSt K H' a (c + 10) → Q (.str (S z)) H'
theorem small18 {n : Nat} (h : n < 10 ^ 18) : ((n : Int)).natAbs.log2 < 1920 := by
  rw [Int.natAbs_natCast]
  exact Nat.lt_of_lt_of_le (PySem.Flt.log2_lt_of (k := 64) (by decide) (Nat.lt_of_lt_of_le h (by decide))) (by decide)
section
variable {P : Program} {w : World} {K : PySem.W.Frag} {mg : Str → Option Value} {base : Heap}
theorem ok_state (T : Txt w K mg) : Cal P w K mg base 1 (ga K "_law_state") ["script"] [] (spState K) := by
  obtain ⟨fd, F⟩ := T.d__law_state
  refine cal_of F sc__law_state (bi_plain F (F.bindsN fun _ _ _ _ _ _ us hl => match us, hl with | [_], _ => rfl)) (by rintro vs H Q E ⟨n, ns, rfl, _⟩; rfl) (fun cdv A outer s H vs Q E hr h => ?_)
  obtain ⟨l, ns, rfl, hl, q⟩ := h
  refine ⟨_, (pss_one (ps_ret (pe_lst (pa_cons (pe_callTy call_list_of (by rfl) T.n_list (by decide +kernel) (pa_cons (pv 0) pa_nil)) (pa_cons pe_int (pa_cons pe_int (pa_cons pe_int (pa_cons pe_int (pa_cons pe_int pa_nil))))))))), ?_⟩
  refine ⟨_, rfl, l, _, rfl, .inl hl, fun u hu => ⟨(by show 6 ≤ sizeLine; decide), fun a ha => ?_⟩⟩
  have s1 := same_upd hu (.lst (ns.map V.int))
  have ua : u ≠ a := fun e => by rw [e, upd_same] at ha; cases ha
  exact q a _ (s1.trans (same_upd ha _)) (Same.fresh s1 ha) ⟨u, ns, 0, 0, 0, 0, 1, upd_same, SqL.of (by rw [upd_ne ua]; exact upd_same), ua, Nat.le_refl _, by decide, by decide⟩
theorem ok_word (T : Txt w K mg) : Cal P w K mg base 3 (ga K "_law_word") ["state"] [] (spWord K) := by
  obtain ⟨fd, F⟩ := T.d__law_word
  have c__law_draw := ok_draw (P := P) (base := base) T
  refine cal_of F sc__law_word (bi_plain F (F.bindsN fun _ _ _ _ _ _ us hl => match us, hl with | [_], _ => rfl)) (by rintro vs H Q E ⟨n, ns, rfl, _⟩; rfl) (fun cdv A outer s H vs Q E hr h => ?_)
  obtain ⟨a, c, rfl, hc, D, q⟩ := h
  have hr__law_draw := hr
  refine ⟨_, (pss_cons (ps_set (i := 1) sc__law_word.nd rfl (Or.inl rfl) pe_str)
 (pss_cons (ps_set (i := 2) sc__law_word.nd rfl (Or.inl rfl) (pe_ix ix_str (pv 1) (pe_callC c__law_draw hr__law_draw T.g__law_draw (pa_cons (pv 0) (pa_cons pe_int pa_nil))) (fun _ _ => rfl)))
 (pss_cons (ps_for PassesOwn.never rfl (pi_range1 rfl T.n_range (pa_cons (pe_callC c__law_draw hr__law_draw T.g__law_draw (pa_cons (pv 0) (pa_cons pe_int pa_nil))) pa_nil)) (pg_name (i := 3) sc__law_word.nd rfl (Or.inl rfl))
 (pss_one (ps_set (i := 2) sc__law_word.nd rfl (Or.inl rfl) (pe_op op_add_str (pv 2) (pe_ix ix_str (pv 1) (pe_callC c__law_draw hr__law_draw T.g__law_draw (pa_cons (pv 0) (pa_cons pe_int pa_nil))) (fun _ _ => rfl))))))
 (pss_cons (ps_if (pt_cmpR op_in_seq (pv 2) (pe_tup (pa_cons pe_str (pa_cons pe_str (pa_cons pe_str (pa_cons pe_str (pa_cons pe_str (pa_cons pe_str (pa_cons pe_str (pa_cons pe_str (pa_cons pe_str pa_nil)))))))))) (by rfl))
 (pss_one (ps_set (i := 2) sc__law_word.nd rfl (Or.inl rfl) (pe_op op_add_str (pv 2) pe_str)))
 pss_nil)
 (pss_one (ps_ret (pv 2))))))), ?_⟩
  refine ⟨_, rfl, _, rfl, a, 26, c, rfl, by omega, by decide, by omega, D, fun r H1 hr1 b1 D1 => ?_⟩
  rw [show ("abcdefghijklmnopqrstuvwxyz0123456789_" : Str) = S WLT by decide +kernel]
  have hr1' : r < WLT.length := Nat.lt_trans hr1 (by decide)
  refine ⟨S WLT, r, WLT[r], rfl, rfl, len63 (by decide), atI_nat (j := r) (List.getElem?_eq_getElem hr1'), ?_⟩
  have wch : ∀ i, i < 37 → ∀ h : i < WLT.length, WLT[i] ∈ WCH := by decide +kernel
  have wlt : ∀ i, i < 26 → ∀ h : i < WLT.length, WLT[i] ∈ LET := by decide +kernel
  have h1 := wch r (Nat.lt_trans hr1 (by decide)) hr1'
  have h2 := wlt r hr1 hr1'
  refine ⟨_, rfl, a, 6, c + 1, rfl, by omega, by decide, by omega, D1, fun r2 H2 hr2 b2 D2 => ⟨r2, rfl, by omega, by omega, ?_⟩⟩
  refine for_range (n := r2) (fun i σ H' => ∃ z k, σ = [some (.ref a), some (.str (S WLT)), some (.str (S z)), k] ∧ But a H H' ∧ DrawSt K H' a (c + 2 + i) ∧ z.length = 1 + i ∧ (∀ x ∈ z.head?, x ∈ LET) ∧ ∀ x ∈ z, x ∈ WCH) ⟨[WLT[r]], none, rfl, b1.trans b2, D2, rfl, ?_, ?_⟩ (fun i σ H' hi h => ?_) (fun σ H' h => ?_)
  · intro x hx
    cases hx
    exact h2
  · intro x hx
    cases List.mem_singleton.mp hx
    exact h1
  · obtain ⟨z, k, rfl, b3, D3, hz, hzh, hza⟩ := h
    refine ⟨_, rfl, _, rfl, _, rfl, a, 37, _, rfl, by omega, by decide, by omega, D3, fun r4 H4 hr4 b4 D4 => ?_⟩
    have hr4' : r4 < WLT.length := hr4
    refine ⟨S WLT, r4, WLT[r4], rfl, rfl, len63 (by decide), atI_nat (j := r4) (List.getElem?_eq_getElem hr4'), ?_⟩
    refine ⟨_, _, rfl, rfl, ?_, ?_⟩
    · have e : (Str.length ⟨#[WLT[r4]]⟩) = 1 := rfl
      rw [S_len, e, hz]
      exact Nat.le_trans (show 1 + i + 1 ≤ 100 by omega) (by decide)
    refine ⟨z ++ [WLT[r4]], some (.int (0 + (i : Int))), ?_, b3.trans b4, D4, by rw [List.length_append]; show z.length + 1 = _; omega, ?_, ?_⟩
    · show [some (V.ref a), some (V.str (S WLT)), some (V.str (S z ++ S [WLT[r4]])), some (V.int (0 + (i : Int)))] = _
      rw [S_cat]
    · cases z with
      | nil => exact absurd hz (by show ¬ 0 = _; omega)
      | cons y z => exact hzh
    · intro x hx
      rcases List.mem_append.mp hx with h | h
      · exact hza x h
      · cases List.mem_singleton.mp h
        exact wch r4 hr4 hr4'
  · obtain ⟨z, k, rfl, b3, D3, hz, hzh, hza⟩ := h
    refine ⟨_, rfl, (by show 9 ≤ sizeLine; decide), fun u hu => ?_⟩
    have s4 : Same H' (upd H' u (.tup (KWS.map V.str))) := same_upd hu _
    refine ⟨u, KWS.map V.str, rfl, .inr (SqT.of upd_same), rfl, flat_strs _, _, rfl, ?_⟩
    refine (show (if inV (.str (S z)) (KWS.map V.str) = true then _ else _) from ?_)
    rw [in_strs]
    refine ite2 (fun hk => ?_) (fun hk => ?_)
    · have hk := of_decide_eq_true hk
      refine ⟨_, rfl, _, _, rfl, rfl, ?_, ?_⟩
      · have e : (("x" : Str)).length = 1 := by decide +kernel
        rw [S_len, e, hz]
        exact Nat.le_trans (show 1 + r2 + 1 ≤ 100 by omega) (by decide)
      refine ⟨_, rfl, ?_⟩
      rw [show ("x" : Str) = S [120] by decide +kernel, S_cat]
      refine q _ _ ⟨?_, ?_, by rw [List.length_append]; show 1 ≤ z.length + 1 ∧ z.length + 1 ≤ 8; omega, fun hc => ?_⟩ (b3.trans (But.of s4)) ((D3.same s4).mono (by omega))
      · cases z with
        | nil => exact absurd hz (by show ¬ 0 = _; omega)
        | cons y z => exact hzh
      · intro x hx
        rcases List.mem_append.mp hx with h | h
        · exact hza x h
        · cases List.mem_singleton.mp h
          decide +kernel
      · have e : ∀ y ∈ KWS, y.cps.toList.getLast? ≠ some 120 := by decide +kernel
        refine e _ hc ?_
        show (z ++ [120]).getLast? = _
        simp
    · have hk := of_decide_eq_false (Bool.eq_false_iff.mpr hk)
      exact ⟨_, rfl, q _ _ ⟨hzh, hza, by omega, hk⟩ (b3.trans (But.of s4)) ((D3.same s4).mono (by omega))⟩
theorem ok_text (T : Txt w K mg) : Cal P w K mg base 3 (ga K "_law_text") ["state"] [] (spTx K) := by
  obtain ⟨fd, F⟩ := T.d__law_text
  have c__law_draw := ok_draw (P := P) (base := base) T
  refine cal_of F sc__law_text (bi_plain F (F.bindsN fun _ _ _ _ _ _ us hl => match us, hl with | [_], _ => rfl)) (by rintro vs H Q E ⟨n, ns, rfl, _⟩; rfl) (fun cdv A outer s H vs Q E hr h => ?_)
  obtain ⟨a, c, rfl, hc, D, q⟩ := h
  have hr__law_draw := hr
  refine ⟨_, (pss_cons (ps_set (i := 1) sc__law_text.nd rfl (Or.inl rfl) pe_str)
 (pss_cons (ps_set (i := 2) sc__law_text.nd rfl (Or.inl rfl) pe_str)
 (pss_cons (ps_for PassesOwn.never rfl (pi_range1 rfl T.n_range (pa_cons (pe_callC c__law_draw hr__law_draw T.g__law_draw (pa_cons (pv 0) (pa_cons pe_int pa_nil))) pa_nil)) (pg_name (i := 3) sc__law_text.nd rfl (Or.inl rfl))
 (pss_one (ps_set (i := 2) sc__law_text.nd rfl (Or.inl rfl) (pe_op op_add_str (pv 2) (pe_ix ix_str (pv 1) (pe_callC c__law_draw hr__law_draw T.g__law_draw (pa_cons (pv 0) (pa_cons (pe_callB call_len_str (by rfl) T.n_len PySem.boot_len (pa_cons (pv 1) pa_nil)) pa_nil))) (fun _ _ => rfl))))))
 (pss_one (ps_ret (pv 2)))))), ?_⟩
  rw [show (" !#$&'()*+,-./0123456789:;<=>?@ABCXYZ[\\]^_`abcxyz{|}~" : Str) = S TXS by decide +kernel]
  refine ⟨_, rfl, a, 9, c, rfl, by omega, by decide, by omega, D, fun r2 H2 hr2 b2 D2 => ⟨r2, rfl, by omega, by omega, ?_⟩⟩
  have wch : ∀ i, i < TXS.length → ∀ h : i < TXS.length, 32 ≤ TXS[i] ∧ TXS[i] ≤ 126 ∧ TXS[i] ≠ 34 := by decide +kernel
  refine for_range (n := r2) (fun i σ H' => ∃ z k, σ = [some (.ref a), some (.str (S TXS)), some (.str (S z)), k] ∧ But a H H' ∧ DrawSt K H' a (c + 1 + i) ∧ z.length = i ∧ ∀ x ∈ z, 32 ≤ x ∧ x ≤ 126 ∧ x ≠ 34) ⟨[], none, rfl, b2, D2, rfl, ?_⟩ (fun i σ H' hi h => ?_) (fun σ H' h => ?_)
  · intro x hx
    cases hx
  · obtain ⟨z, k, rfl, b3, D3, hz, hza⟩ := h
    refine ⟨_, rfl, _, rfl, _, rfl, _, rfl, S TXS, rfl, len63 (by decide), ?_⟩
    refine ⟨a, TXS.length, _, rfl, by decide, by decide, by omega, D3, fun r4 H4 hr4 b4 D4 => ?_⟩
    refine ⟨S TXS, r4, TXS[r4], rfl, rfl, len63 (by decide), atI_nat (j := r4) (List.getElem?_eq_getElem hr4), ?_⟩
    refine ⟨_, _, rfl, rfl, ?_, ?_⟩
    · have e : (Str.length ⟨#[TXS[r4]]⟩) = 1 := rfl
      rw [S_len, e, hz]
      exact Nat.le_trans (show i + 1 ≤ 100 by omega) (by decide)
    refine ⟨z ++ [TXS[r4]], some (.int (0 + (i : Int))), ?_, b3.trans b4, D4, by rw [List.length_append]; show z.length + 1 = _; omega, ?_⟩
    · show [some (V.ref a), some (V.str (S TXS)), some (V.str (S z ++ S [TXS[r4]])), some (V.int (0 + (i : Int)))] = _
      rw [S_cat]
    · intro x hx
      rcases List.mem_append.mp hx with h | h
      · exact hza x h
      · cases List.mem_singleton.mp h
        exact wch r4 hr4 hr4
  · obtain ⟨z, k, rfl, b3, D3, hz, hza⟩ := h
    exact ⟨_, rfl, q _ _ ⟨hza, by omega⟩ b3 (D3.mono (by omega))⟩
theorem ok_space (T : Txt w K mg) : Cal P w K mg base 3 (ga K "_law_space") ["state", "least"] [] (spSpace K) := by
  obtain ⟨fd, F⟩ := T.d__law_space
  have c__law_draw := ok_draw (P := P) (base := base) T
  refine cal_of F sc__law_space (bi_plain F (F.bindsN fun _ _ _ _ _ _ us hl => match us, hl with | [_, _], _ => rfl)) (by rintro vs H Q E ⟨n, ls, ns, rfl, _⟩; rfl) (fun cdv A outer s H vs Q E hr h => ?_)
  obtain ⟨a, least, c, rfl, hle, hc, D, q⟩ := h
  have hr__law_draw := hr
  refine ⟨_, (pss_cons (ps_set (i := 2) sc__law_space.nd rfl (Or.inl rfl) pe_str)
 (pss_cons (ps_for PassesOwn.never rfl (pi_range1 rfl T.n_range (pa_cons (pe_op op_add (pv 1) (pe_callC c__law_draw hr__law_draw T.g__law_draw (pa_cons (pv 0) (pa_cons (pe_op op_sub pe_int (pv 1)) pa_nil)))) pa_nil)) (pg_name (i := 3) sc__law_space.nd rfl (Or.inl rfl))
 (pss_one (ps_set (i := 2) sc__law_space.nd rfl (Or.inl rfl) (pe_op op_add_str (pv 2) (pe_ix ix_str pe_str (pe_callC c__law_draw hr__law_draw T.g__law_draw (pa_cons (pv 0) (pa_cons pe_int pa_nil))) (fun _ _ => rfl))))))
 (pss_one (ps_ret (pv 2))))), ?_⟩
  refine ⟨_, rfl, _, rfl, _, rfl, _, _, rfl, rfl, a, 4 - least, c, ?_, by omega, by omega, by omega, D, fun r2 H2 hr2 b2 D2 => ⟨_, _, rfl, rfl, ((least : Int) + (r2 : Int)), rfl, by omega, by omega, ?_⟩⟩
  · show [V.ref a, V.int ((4 : Int) - (least : Int))] = _
    rw [show ((4 : Int) - (least : Int)) = ((4 - least : Nat) : Int) by omega]
  have wch : ∀ i, i < 3 → ∀ h : i < SPS.length, SPS[i] ∈ SPS := by decide +kernel
  refine for_range (n := least + r2) (fun i σ H' => ∃ z k, σ = [some (.ref a), some (.int least), some (.str (S z)), k] ∧ But a H H' ∧ DrawSt K H' a (c + 1 + i) ∧ z.length = i ∧ ∀ x ∈ z, x ∈ SPS) ⟨[], none, rfl, b2, D2, rfl, ?_⟩ (fun i σ H' hi h => ?_) (fun σ H' h => ?_)
  · intro x hx
    cases hx
  · obtain ⟨z, k, rfl, b3, D3, hz, hza⟩ := h
    refine ⟨_, rfl, _, rfl, a, 3, _, rfl, by decide, by decide, by omega, D3, fun r4 H4 hr4 b4 D4 => ?_⟩
    rw [show (" \n\t" : Str) = S SPS by decide +kernel]
    have hr4' : r4 < SPS.length := hr4
    refine ⟨S SPS, r4, SPS[r4], rfl, rfl, len63 (by decide), atI_nat (j := r4) (List.getElem?_eq_getElem hr4'), ?_⟩
    refine ⟨_, _, rfl, rfl, ?_, ?_⟩
    · have e : (Str.length ⟨#[SPS[r4]]⟩) = 1 := rfl
      rw [S_len, e, hz]
      exact Nat.le_trans (show i + 1 ≤ 100 by omega) (by decide)
    refine ⟨z ++ [SPS[r4]], some (.int (0 + (i : Int))), ?_, b3.trans b4, D4, by rw [List.length_append]; show z.length + 1 = _; omega, ?_⟩
    · show [some (V.ref a), some (V.int least), some (V.str (S z ++ S [SPS[r4]])), some (V.int (0 + (i : Int)))] = _
      rw [S_cat]
    · intro x hx
      rcases List.mem_append.mp hx with h | h
      · exact hza x h
      · cases List.mem_singleton.mp h
        exact wch r4 hr4' hr4'
  · obtain ⟨z, k, rfl, b3, D3, hz, hza⟩ := h
    exact ⟨_, rfl, q _ _ hza (by omega) (by omega) b3 (D3.mono (by omega))⟩
theorem ok_opd (T : Txt w K mg) : Cal P w K mg base 4 (ga K "_law_operand") ["state"] [] (spOpd K) := by
  obtain ⟨fd, F⟩ := T.d__law_operand
  have c__law_draw := ok_draw (P := P) (base := base) T
  have c__law_text := ok_text (P := P) (base := base) T
  have c__law_word := ok_word (P := P) (base := base) T
  refine cal_of F sc__law_operand (bi_plain F (F.bindsN fun _ _ _ _ _ _ us hl => match us, hl with | [_], _ => rfl)) (by rintro vs H Q E ⟨n, ns, rfl, _⟩; rfl) (fun cdv A outer s H vs Q E hr h => ?_)
  obtain ⟨a, c, rfl, hc, D, q⟩ := h
  have hr__law_draw := hr.mono (by decide : 2 ≤ 3)
  have hr__law_text := hr
  have hr__law_word := hr
  refine ⟨_, (pss_cons (ps_set (i := 1) sc__law_operand.nd rfl (Or.inl rfl) (pe_callC c__law_draw hr__law_draw T.g__law_draw (pa_cons (pv 0) (pa_cons pe_int pa_nil))))
 (pss_cons (ps_if (pt_cmpR op_eq (pv 1) pe_int (nomark _))
 (pss_one (ps_ret (pe_callTy call_str_int (by rfl) T.n_str (by decide +kernel) (pa_cons (pe_callC c__law_draw hr__law_draw T.g__law_draw (pa_cons (pv 0) (pa_cons (pe_op op_pow pe_int pe_int) pa_nil))) pa_nil))))
 pss_nil)
 (pss_cons (ps_if (pt_cmpR op_eq (pv 1) pe_int (nomark _))
 (pss_one (ps_ret (pe_callTy call_str_int (by rfl) T.n_str (by decide +kernel) (pa_cons (pe_callC c__law_draw hr__law_draw T.g__law_draw (pa_cons (pv 0) (pa_cons pe_int pa_nil))) pa_nil))))
 pss_nil)
 (pss_cons (ps_if (pt_cmpR op_eq (pv 1) pe_int (nomark _))
 (pss_one (ps_ret (pe_op op_add_str (pe_op op_add_str pe_str (pe_callC c__law_text hr__law_text T.g__law_text (pa_cons (pv 0) pa_nil))) pe_str)))
 pss_nil)
 (pss_one (ps_ret (pe_callC c__law_word hr__law_word T.g__law_word (pa_cons (pv 0) pa_nil)))))))), ?_⟩
  refine ⟨_, rfl, a, 4, c, rfl, by decide, by decide, by omega, D, fun r1 H1 hr1 b1 D1 => ?_⟩
  refine ⟨_, rfl, rfl, _, rfl, ite2 (fun h0 => ?_) (fun h0 => ?_)⟩
  · refine ⟨_, rfl, _, _, rfl, rfl, (by show (0 : Int) ≤ 18 ∧ (18 : Int) ≤ 1000000 ∧ (10 : Int).natAbs < 2 ^ 64; decide), a, 10 ^ 18, c + 1, rfl, by decide, by decide, by omega, D1, fun r2 H2 hr2 b2 D2 => ⟨r2, rfl, small18 hr2, ?_⟩⟩
    rw [num_S]
    exact q (.num r2) H2 (.inl ⟨r2, hr2, rfl⟩) (b1.trans b2) (D2.mono (by omega))
  refine ⟨_, rfl, rfl, _, rfl, ite2 (fun h1 => ?_) (fun h1 => ?_)⟩
  · refine ⟨_, rfl, a, 12, c + 1, rfl, by decide, by decide, by omega, D1, fun r2 H2 hr2 b2 D2 => ⟨r2, rfl, small18 (Nat.lt_trans hr2 (by decide)), ?_⟩⟩
    rw [num_S]
    exact q (.num r2) H2 (.inl ⟨r2, Nat.lt_trans hr2 (by decide), rfl⟩) (b1.trans b2) (D2.mono (by omega))
  refine ⟨_, rfl, rfl, _, rfl, ite2 (fun h2 => ?_) (fun h2 => ?_)⟩
  · refine ⟨_, rfl, a, c + 1, rfl, by omega, D1, fun z H2 hz b2 D2 => ⟨_, _, rfl, rfl, ?_, _, _, rfl, rfl, ?_, ?_⟩⟩
    · rw [show ("\"" : Str) = S [34] by decide +kernel, S_len, S_len]
      have := hz.len
      exact Nat.le_trans (show 1 + z.length ≤ 100 by omega) (by decide)
    · rw [show ("\"" : Str) = S [34] by decide +kernel, S_cat, S_len, S_len]
      have := hz.len
      exact Nat.le_trans (show ([34] ++ z).length + 1 ≤ 100 by simp; omega) (by decide)
    · rw [show ("\"" : Str) = S [34] by decide +kernel, S_cat, S_cat]
      exact q (.txt z) H2 (.inr (.inl ⟨z, hz, rfl⟩)) (b1.trans b2) (D2.mono (by omega))
  · exact ⟨_, rfl, a, c + 1, rfl, by omega, D1, fun z H2 hz b2 D2 => q (.var z) H2 (.inr (.inr ⟨z, hz, rfl⟩)) (b1.trans b2) (D2.mono (by omega))⟩
end
end Lx

set_option maxHeartbeats 4000000
namespace Lx
open PySem PySem.Spec PyProof.Rows L2 He SX Tx
/-! ### texts of tokens with blanks between -/
def flat : List (Tk × List Nat) → List Nat
  | [] => []
  | (t, s) :: ps => t.codes ++ (s ++ flat ps)
/-- each token can stand, blanks behind it, and it ends where it does -/
def Spaced : List (Tk × List Nat) → Prop
  | [] => True
  | (t, s) :: ps => t.ok ∧ (∀ c ∈ s, c ∈ BLK) ∧ t.ends (s ++ flat ps) ∧ Spaced ps
theorem codes_head {t : Tk} (h : t.ok) : ∃ c r, t.codes = c :: r ∧ ¬ c ∈ BLK := by
  cases t with
  | num n =>
    cases e : TL.numL n with
    | nil => exact absurd e (TL.numL_ne n)
    | cons c r =>
      refine ⟨c, r, e, fun hb => ?_⟩
      have hd := TL.numL_digits n c (by rw [e]; exact List.mem_cons_self)
      simp only [BLK, List.mem_cons, List.not_mem_nil, or_false] at hb
      revert hd
      rcases hb with rfl | rfl | rfl <;> decide
  | txt l => exact ⟨34, _, rfl, by decide⟩
  | word l =>
    obtain ⟨h1, h2, h3⟩ := h
    cases l with
    | nil => exact absurd rfl h1
    | cons c r =>
      refine ⟨c, r, rfl, fun hb => ?_⟩
      have hc := h2 c rfl
      simp only [BLK, List.mem_cons, List.not_mem_nil, or_false] at hb
      rcases hb with rfl | rfl | rfl <;> exact absurd hc (by decide)
  | sign l =>
    rcases h with h | ⟨c, rfl, hc⟩
    · simp only [PRS, List.mem_cons, List.not_mem_nil, or_false] at h
      rcases h with rfl | rfl | rfl <;> exact ⟨_, _, rfl, by decide⟩
    · refine ⟨c, [], rfl, fun hb => ?_⟩
      simp only [BLK, List.mem_cons, List.not_mem_nil, or_false] at hb
      rcases hb with rfl | rfl | rfl <;> exact absurd hc (by decide)
  | eof => exact h.elim
theorem flat_head {ps : List (Tk × List Nat)} (h : Spaced ps) : ∀ c ∈ (flat ps).head?, ¬ c ∈ BLK := by
  cases ps with
  | nil => intro c hc; cases hc
  | cons p ps =>
    obtain ⟨t, s⟩ := p
    obtain ⟨c, r, e, hc⟩ := codes_head h.1
    intro d hd
    have e2 : flat ((t, s) :: ps) = c :: (r ++ (s ++ flat ps)) := by show t.codes ++ _ = _; rw [e]; rfl
    rw [e2] at hd
    cases hd
    exact hc
/-- where the tokens stand -/
def places : Nat → List (Tk × List Nat) → TL1
  | _, [] => []
  | i, (t, s) :: ps => (t, i) :: places (i + t.codes.length + s.length) ps
theorem lexed_places {l : List Nat} : ∀ {ps : List (Tk × List Nat)} {i : Nat}, i ≤ l.length → l.drop i = flat ps → Spaced ps → Lexed l i (places i ps)
  | [], i, hi, hd, _ => by
    have e : i = l.length := by
      have z := congrArg List.length hd
      rw [List.length_drop] at z
      have : (flat []).length = 0 := rfl
      omega
    rw [e]
    exact .fin
  | (t, s) :: ps, i, hi, hd, hs => by
    have hd' : l.drop i = t.codes ++ (s ++ flat ps) := hd
    have z := congrArg List.length hd'
    rw [List.length_drop, List.length_append, List.length_append] at z
    refine .tok ⟨⟨_, hd', hs.2.2.1⟩, hs.1, rfl⟩ ?_
    have hd2 : l.drop (i + t.codes.length) = s ++ flat ps := by
      rw [← List.drop_drop, hd', List.drop_left]
    have e : runEnd l BLK (i + t.codes.length) = i + t.codes.length + s.length := runEnd_app hd2 hs.2.1 (flat_head hs.2.2.2)
    rw [e]
    refine lexed_places (by omega) ?_ hs.2.2.2
    rw [← List.drop_drop, hd2, List.drop_left]
theorem lexed_text {s0 : List Nat} {ps : List (Tk × List Nat)} (h0 : ∀ c ∈ s0, c ∈ BLK) (h : Spaced ps) : Lexed (s0 ++ flat ps) (runEnd (s0 ++ flat ps) BLK 0) (places s0.length ps) := by
  have e : runEnd (s0 ++ flat ps) BLK 0 = 0 + s0.length := runEnd_app (by rfl) h0 (flat_head h)
  rw [e, Nat.zero_add]
  refine lexed_places (by rw [List.length_append]; omega) (by rw [List.drop_left]) h
theorem places_fst : ∀ {ps : List (Tk × List Nat)} {i : Nat}, (places i ps).map (·.1) = ps.map (·.1)
  | [], _ => rfl
  | (t, s) :: ps, i => congrArg (t :: ·) places_fst
end Lx

set_option maxHeartbeats 4000000
namespace Lx
open PySem PySem.Spec PyProof.Rows L2 He SX Tx
/-! ### the law's statements -/
def CLS : List (List Nat) := [[102, 105, 110, 100], [119, 114, 105, 116, 116, 101, 110], [115, 105, 122, 101], [110, 111, 116]]
def opT : Ex → Tk
  | .num n => .num n
  | .txt l => .txt l
  | .var z => .word z
  | _ => .eof
def exOf (call : Option (List Nat)) (e : Ex) : Ex := match call with
  | none => e
  | some nm => .call nm [e]
def exT (call : Option (List Nat)) (e : Ex) : List Tk := match call with
  | none => [opT e]
  | some nm => [.word nm, .sign [40], opT e, .sign [41]]
def TELL : List Nat := [116, 101, 108, 108]
def stOf (head : Nat) (z : List Nat) (x : Ex) : St := if head = 0 then .set z x else if head = 1 then .tell x else .run x
def stT (head : Nat) (z : List Nat) : List Tk := if head = 0 then [.word z, .sign [61]] else if head = 1 then [.word TELL] else []
theorem tok_at {ts : TL1} {l : List Nat} {TS : List Tk} (h : ts.map (·.1) = TS) (i : Nat) {t : Tk} (ht : (TS ++ [Tk.eof])[i]? = some t) : ∃ ix, (allT l ts)[i]? = some (t, ix) := by
  have e : (allT l ts).map (·.1) = TS ++ [Tk.eof] := by
    unfold allT
    rw [List.map_append, h]
    rfl
  rw [← e, List.getElem?_map] at ht
  obtain ⟨p, hp, ep⟩ := Option.map_eq_some_iff.mp ht
  obtain ⟨t', ix⟩ := p
  cases ep
  exact ⟨ix, hp⟩
/-- a token that ends an operand -/
def stopT (t : Tk) : Prop := ∀ r, r < 5 → isOp t r = none
theorem stop_41 : stopT (.sign [41]) := fun r h => by
  match r, h with
  | 0, _ => decide +kernel
  | 1, _ => decide +kernel
  | 2, _ => decide +kernel
  | 3, _ => decide +kernel
  | 4, _ => decide +kernel
theorem stop_59 : stopT (.sign [59]) := fun r h => by
  match r, h with
  | 0, _ => decide +kernel
  | 1, _ => decide +kernel
  | 2, _ => decide +kernel
  | 3, _ => decide +kernel
  | 4, _ => decide +kernel
theorem pc_of {ts : TL1} {k i n j : Nat} {e : Ex} {t : Tk} {ix : Nat} (h : PO ts k i n e j) (ht : ts[j]? = some (t, ix)) (hs : stopT t) : PC ts (k + 6) 0 i n e j :=
  .one (by decide) (.one (by decide) (.one (by decide) (.one (by decide) (.one (by decide) (.opd h) ht (hs 4 (by decide))) ht (hs 3 (by decide))) ht (hs 2 (by decide))) ht (hs 1 (by decide))) ht (hs 0 (by decide))
theorem po_of {ts : TL1} {k i n : Nat} {e : Ex} {ix ix' : Nat} {t : Tk} (he : OpdOk e) (h0 : ts[i]? = some (opT e, ix)) (h1 : ts[i + 1]? = some (t, ix')) (ht : t.is "sign" "(" = false) : PO ts (k + 1) i n e (i + 1) := by
  rcases he with ⟨m, hm, rfl⟩ | ⟨l, hl, rfl⟩ | ⟨z, hz, rfl⟩
  · exact .num h0
  · exact .txt h0
  · exact .var h0 hz.kw h1 ht
theorem is_41 : (Tk.sign [41]).is "sign" "(" = false := isSignF _ _ (by decide +kernel)
theorem is_59 : (Tk.sign [59]).is "sign" "(" = false := isSignF _ _ (by decide +kernel)
theorem cls_ok {nm : List Nat} (h : nm ∈ CLS) : ¬ S nm ∈ KWS ∧ okArgs nm 1 := by
  simp only [CLS, List.mem_cons, List.not_mem_nil, or_false] at h
  rcases h with rfl | rfl | rfl | rfl <;> exact ⟨by decide +kernel, 1, by decide +kernel, rfl⟩
theorem opT_no {e : Ex} (he : OpdOk e) : (opT e).is "sign" ")" = false := by
  rcases he with ⟨m, hm, rfl⟩ | ⟨l, hl, rfl⟩ | ⟨z, hz, rfl⟩ <;> exact notSign (by first | (show ¬ ("number" : Str) = "sign"; decide +kernel) | (show ¬ ("text" : Str) = "sign"; decide +kernel) | (show ¬ ("word" : Str) = "sign"; decide +kernel)) _
/-- the expression read, a semicolon behind it -/
theorem pe_of {ts : TL1} {i n : Nat} {call : Option (List Nat)} {e : Ex} (he : OpdOk e) (hc : ∀ nm, call = some nm → nm ∈ CLS) (hn : n < 12) (h : ∀ j t, (exT call e ++ [.sign [59]])[j]? = some t → ∃ ix, ts[i + j]? = some (t, ix)) :
    PC ts 15 0 i n (exOf call e) (i + (exT call e).length) := by
  cases call with
  | none =>
    obtain ⟨x0, h0⟩ := h 0 _ rfl
    obtain ⟨x1, h1⟩ := h 1 _ rfl
    exact pc_of (po_of (k := 8) he h0 h1 is_59) h1 stop_59
  | some nm =>
    obtain ⟨x0, h0⟩ := h 0 _ rfl
    obtain ⟨x1, h1⟩ := h 1 _ rfl
    obtain ⟨x2, h2⟩ := h 2 _ rfl
    obtain ⟨x3, h3⟩ := h 3 _ rfl
    obtain ⟨x4, h4⟩ := h 4 _ rfl
    obtain ⟨k1, k2⟩ := cls_ok (hc nm rfl)
    have p1 : PC ts 7 0 (i + 2) (n + 1) e (i + 3) := pc_of (po_of (k := 0) he h2 h3 is_41) h3 stop_41
    have p2 : PA ts 8 (i + 2) (n + 1) [e] (i + 4) := .cons h2 (opT_no he) p1 (.nil h3) (by decide)
    exact pc_of (.call h0 k1 h1 hn p2 k2) h4 stop_59
theorem parse_ok {head : Nat} {z : List Nat} {call : Option (List Nat)} {e : Ex} (hz : WordOk z) (he : OpdOk e) (hc : ∀ nm, call = some nm → nm ∈ CLS) {l : List Nat} {ts : TL1} (h : ts.map (·.1) = stT head z ++ (exT call e ++ [.sign [59]])) :
    PTop (allT l ts) 15 1 0 [stOf head z (exOf call e)] := by
  have at_ := fun i t ht => tok_at (l := l) h i (t := t) ht
  have lenX : ∀ {A : List Tk}, ((A ++ (exT call e ++ [Tk.sign [59]])) ++ [Tk.eof])[A.length + (exT call e).length + 1]? = some .eof := fun {A} => by
    rw [List.getElem?_append_right (by simp; omega)]
    simp only [List.length_append, List.length_cons, List.length_nil]
    rw [show A.length + (exT call e).length + 1 - (A.length + ((exT call e).length + (0 + 1))) = 0 by omega]
    rfl
  have semi : ∀ {A : List Tk}, ((A ++ (exT call e ++ [Tk.sign [59]])) ++ [Tk.eof])[A.length + (exT call e).length]? = some (.sign [59]) := fun {A} => by
    rw [List.getElem?_append_left (by simp), List.getElem?_append_right (by omega), show A.length + (exT call e).length - A.length = (exT call e).length by omega, List.getElem?_append_right (Nat.le_refl _), Nat.sub_self]
    rfl
  have mid : ∀ {A : List Tk} (j : Nat) (t : Tk), (exT call e ++ [Tk.sign [59]])[j]? = some t → ((A ++ (exT call e ++ [Tk.sign [59]])) ++ [Tk.eof])[A.length + j]? = some t := fun {A} j t hj => by
    have hlt := (List.getElem?_eq_some_iff.mp hj).1
    rw [List.getElem?_append_left (by rw [List.length_append]; omega), List.getElem?_append_right (by omega), show A.length + j - A.length = j by omega]
    exact hj
  unfold stOf
  by_cases h0 : head = 0
  · have e0 : stT head z = [.word z, .sign [61]] := if_pos h0
    rw [e0] at at_
    rw [if_pos h0]
    obtain ⟨y0, g0⟩ := at_ 0 _ rfl
    obtain ⟨y1, g1⟩ := at_ 1 _ rfl
    have p := pe_of (ts := allT l ts) (i := 2) (n := 0) he hc (by decide) (fun j t ht => at_ (2 + j) t (mid (A := [.word z, .sign [61]]) j t ht))
    obtain ⟨y2, g2⟩ := at_ (2 + (exT call e).length) _ (semi (A := [.word z, .sign [61]]))
    obtain ⟨y3, g3⟩ := at_ (2 + (exT call e).length + 1) _ (lenX (A := [.word z, .sign [61]]))
    exact .cons g0 (by show ¬ ("word" : Str) = "end"; decide +kernel) (.set g0 hz.kw g1 p g2) (.nil g3)
  · rw [if_neg h0]
    by_cases h1 : head = 1
    · have e1 : stT head z = [.word TELL] := by unfold stT; rw [if_neg h0, if_pos h1]
      rw [e1] at at_
      rw [if_pos h1]
      obtain ⟨y0, g0⟩ := at_ 0 _ rfl
      have p := pe_of (ts := allT l ts) (i := 1) (n := 0) he hc (by decide) (fun j t ht => at_ (1 + j) t (mid (A := [.word TELL]) j t ht))
      obtain ⟨y2, g2⟩ := at_ (1 + (exT call e).length) _ (semi (A := [.word TELL]))
      obtain ⟨y3, g3⟩ := at_ (1 + (exT call e).length + 1) _ (lenX (A := [.word TELL]))
      exact .cons g0 (by show ¬ ("word" : Str) = "end"; decide +kernel) (.tell g0 (by decide +kernel) p g2) (.nil g3)
    · have e1 : stT head z = [] := by unfold stT; rw [if_neg h0, if_neg h1]
      rw [e1] at at_
      rw [if_neg h1]
      have p := pe_of (ts := allT l ts) (i := 0) (n := 0) he hc (by decide) (fun j t ht => at_ (0 + j) t (by have := mid (A := []) j t ht; exact this))
      obtain ⟨y2, g2⟩ := at_ (0 + (exT call e).length) _ (semi (A := []))
      obtain ⟨y3, g3⟩ := at_ (0 + (exT call e).length + 1) _ (lenX (A := []))
      obtain ⟨t0, t1, q0, q1, q2, q3, q4⟩ : ∃ t0 t1, (exT call e ++ [Tk.sign [59]])[0]? = some t0 ∧ (exT call e ++ [Tk.sign [59]])[1]? = some t1 ∧ (∀ x, t0 = .word x → ¬ S x ∈ KWS) ∧ t1.is "sign" "=" = false ∧ ¬ t0.kind = ("end" : Str) ∧ SeqAt.shaped (.tuple [.str t1.kind, t1.worth]) = true := by
        cases call with
        | none =>
          refine ⟨opT e, .sign [59], rfl, rfl, ?_, isSignF _ _ (by decide +kernel), ?_, by decide +kernel⟩
          · rcases he with ⟨m, hm, rfl⟩ | ⟨x, hx, rfl⟩ | ⟨x, hx, rfl⟩
            · intro y hy; cases hy
            · intro y hy; cases hy
            · intro y hy
              cases hy
              exact hx.kw
          · rcases he with ⟨m, hm, rfl⟩ | ⟨x, hx, rfl⟩ | ⟨x, hx, rfl⟩
            · show ¬ ("number" : Str) = "end"; decide +kernel
            · show ¬ ("text" : Str) = "end"; decide +kernel
            · show ¬ ("word" : Str) = "end"; decide +kernel
        | some nm =>
          refine ⟨.word nm, .sign [40], rfl, rfl, ?_, isSignF _ _ (by decide +kernel), by show ¬ ("word" : Str) = "end"; decide +kernel, by decide +kernel⟩
          intro y hy
          cases hy
          exact (cls_ok (hc nm rfl)).1
      obtain ⟨x0, g0⟩ := at_ 0 t0 (by have := mid (A := []) 0 t0 q0; exact this)
      obtain ⟨x1, g1⟩ := at_ 1 t1 (by have := mid (A := []) 1 t1 q1; exact this)
      refine .cons g0 q4.1 (.run g0 q2 g1 q3 q4.2 p g2) (.nil g3)
end Lx

set_option maxHeartbeats 4000000
namespace Lx
open PySem PySem.Spec PyProof.Rows L2 He SX Tx
/-! ### the texts of the law -/
def cS (call : Option (List Nat)) : List Nat := call.getD []
def exC (call : Option (List Nat)) (e : Ex) : List (List Nat) := match call with
  | none => [wE e 0]
  | some nm => [nm, [40], wE e 0, [41]]
def lnW (head : Nat) (z x : List Nat) : List Nat := if head = 0 then z ++ ([32, 61, 32] ++ (x ++ [59])) else if head = 1 then [116, 101, 108, 108, 32] ++ (x ++ [59]) else x ++ [59]
theorem opT_codes {e : Ex} (he : OpdOk e) : (opT e).codes = wE e 0 := by
  rcases he with ⟨m, hm, rfl⟩ | ⟨l, hl, rfl⟩ | ⟨z, hz, rfl⟩ <;> rfl
theorem exC_codes {call : Option (List Nat)} {e : Ex} (he : OpdOk e) : (exT call e).map Tk.codes = exC call e := by
  cases call with
  | none => show [(opT e).codes] = _; rw [opT_codes he]; rfl
  | some nm => show [nm, [40], (opT e).codes, [41]] = _; rw [opT_codes he]; rfl
theorem exC_flat (call : Option (List Nat)) (e : Ex) : (exC call e).flatten = wE (exOf call e) 0 := by
  cases call with
  | none => show [wE e 0].flatten = wE e 0; simp
  | some nm =>
    show [nm, [40], wE e 0, [41]].flatten = nm ++ 40 :: (TL.joinL [44, 32] [wE e 0] ++ [41])
    show _ = nm ++ 40 :: (wE e 0 ++ [41])
    simp
theorem str_of (head : Nat) (z : List Nat) (x : Ex) : strS [stOf head z x] = lnW head z (wE x 0) := by
  unfold stOf lnW strS
  by_cases h0 : head = 0
  · rw [if_pos h0, if_pos h0]
    show TL.joinL [10] ([z ++ ([32, 61, 32] ++ (wE x 0 ++ [59]))] ++ []) = _
    rfl
  · rw [if_neg h0, if_neg h0]
    by_cases h1 : head = 1
    · rw [if_pos h1, if_pos h1]
      rfl
    · rw [if_neg h1, if_neg h1]
      rfl
theorem numL_18 {n : Nat} (h : n < 10 ^ 18) : (TL.numL n).length ≤ 18 := TL.numL_len (by decide) h
theorem opd_len {e : Ex} (he : OpdOk e) : (wE e 0).length ≤ 18 := by
  rcases he with ⟨m, hm, rfl⟩ | ⟨l, hl, rfl⟩ | ⟨z, hz, rfl⟩
  · exact numL_18 hm
  · have := hl.len
    show (34 :: (l ++ [34])).length ≤ 18
    simp
    omega
  · have := hz.len
    show z.length ≤ 18
    omega
theorem cls_len {nm : List Nat} (h : nm ∈ CLS) : nm.length ≤ 7 := by
  simp only [CLS, List.mem_cons, List.not_mem_nil, or_false] at h
  rcases h with rfl | rfl | rfl | rfl <;> decide
theorem exC_len {call : Option (List Nat)} {e : Ex} (he : OpdOk e) (hc : ∀ nm, call = some nm → nm ∈ CLS) : (∀ x ∈ exC call e, x.length ≤ 18) ∧ (exC call e).length ≤ 4 := by
  have h1 := opd_len he
  cases call with
  | none =>
    refine ⟨fun x hx => ?_, by show 1 ≤ 4; decide⟩
    rw [List.mem_singleton.mp hx]
    exact h1
  | some nm =>
    have h2 := cls_len (hc nm rfl)
    refine ⟨fun x hx => ?_, by show 4 ≤ 4; decide⟩
    simp only [exC, List.mem_cons, List.not_mem_nil, or_false] at hx
    rcases hx with rfl | rfl | rfl | rfl
    · omega
    · decide
    · exact h1
    · decide
theorem exOf_len {call : Option (List Nat)} {e : Ex} (he : OpdOk e) (hc : ∀ nm, call = some nm → nm ∈ CLS) : (wE (exOf call e) 0).length ≤ 40 := by
  have h1 := opd_len he
  rw [← exC_flat]
  cases call with
  | none => show [wE e 0].flatten.length ≤ 40; simp; omega
  | some nm =>
    have h2 := cls_len (hc nm rfl)
    show [nm, [40], wE e 0, [41]].flatten.length ≤ 40
    simp
    omega
/-! ### spacing -/
theorem blk_wch : ∀ c ∈ BLK, ¬ c ∈ WCH := by decide +kernel
theorem dig_wch : ∀ c ∈ DIG, c ∈ WCH := by decide +kernel
theorem head_app {s r : List Nat} {c : Nat} (h : c ∈ (s ++ r).head?) : c ∈ s ∨ c ∈ r.head? := by
  cases s with
  | nil => exact .inr h
  | cons a s =>
    cases h
    exact .inl List.mem_cons_self
theorem opT_ends {e : Ex} (he : OpdOk e) {r : List Nat} (h : ∀ c ∈ r.head?, ¬ c ∈ WCH) : (opT e).ends r := by
  rcases he with ⟨m, hm, rfl⟩ | ⟨l, hl, rfl⟩ | ⟨z, hz, rfl⟩
  · exact fun c hc hd => h c hc (dig_wch c hd)
  · trivial
  · exact h
theorem opT_ok {e : Ex} (he : OpdOk e) : (opT e).ok := by
  rcases he with ⟨m, hm, rfl⟩ | ⟨l, hl, rfl⟩ | ⟨z, hz, rfl⟩
  · exact numL_18 hm
  · exact hl.all
  · refine ⟨fun h => ?_, hz.ne, hz.all⟩
    have := hz.len.1
    rw [h] at this
    cases this
theorem cls_word {nm : List Nat} (h : nm ∈ CLS) : (Tk.word nm).ok := by
  simp only [CLS, List.mem_cons, List.not_mem_nil, or_false] at h
  rcases h with rfl | rfl | rfl | rfl <;> exact ⟨by decide, by decide, by decide⟩
theorem sg_nw {s : List Nat} {x : Nat} {r : List Nat} (hs : ∀ c ∈ s, c ∈ BLK) (hx : ¬ x ∈ WCH) : ∀ c ∈ (s ++ ([x] ++ r)).head?, ¬ c ∈ WCH := fun c hc => by
  rcases head_app hc with h | h
  · exact blk_wch c (hs c h)
  · cases h
    exact hx
/-- a text that begins as an operand does -/
def OpdHead (r : List Nat) : Prop := ∀ c ∈ r.head?, c ≠ 61
theorem opT_head {e : Ex} (he : OpdOk e) (r : List Nat) : OpdHead ((opT e).codes ++ r) := by
  intro c hc
  obtain ⟨y, t, e1, hy⟩ := codes_head (opT_ok he)
  rcases he with ⟨m, hm, rfl⟩ | ⟨l, hl, rfl⟩ | ⟨z, hz, rfl⟩
  · have e2 : TL.numL m = y :: t := e1
    have hd := TL.numL_digits m y (by rw [e2]; exact List.mem_cons_self)
    have e3 : ((opT (.num m)).codes ++ r).head? = some y := by show (TL.numL m ++ r).head? = _; rw [e2]; rfl
    rw [e3] at hc
    intro h61
    rw [Option.some.inj hc, h61] at hd
    exact absurd hd (by decide)
  · cases hc
    decide
  · have e2 : z = y :: t := e1
    have e3 : ((opT (.var z)).codes ++ r).head? = some y := by show (z ++ r).head? = _; rw [e2]; rfl
    rw [e3] at hc
    have := hz.ne y (by rw [e2]; rfl)
    intro h61
    rw [Option.some.inj hc, h61] at this
    exact absurd this (by decide)
theorem spaced_ex {call : Option (List Nat)} {e : Ex} (he : OpdOk e) (hc : ∀ nm, call = some nm → nm ∈ CLS) : ∀ sps : List (List Nat), sps.length = (exT call e).length + 1 → (∀ s ∈ sps, ∀ c ∈ s, c ∈ BLK) →
    Spaced ((exT call e ++ [Tk.sign [59]]).zip sps) ∧ OpdHead (flat ((exT call e ++ [Tk.sign [59]]).zip sps)) := by
  intro sps hl hb
  have n59 : ¬ 59 ∈ WCH := by decide
  have n41 : ¬ 41 ∈ WCH := by decide
  have n40 : ¬ 40 ∈ WCH := by decide
  cases call with
  | none =>
    match sps, hl with
    | [s1, s2], _ =>
      have b1 := hb s1 (by simp)
      have b2 := hb s2 (by simp)
      exact ⟨⟨opT_ok he, b1, opT_ends he (sg_nw b1 n59), .inr ⟨59, rfl, by decide⟩, b2, fun _ h => by simp [PRS] at h, trivial⟩, opT_head he _⟩
  | some nm =>
    match sps, hl with
    | [s1, s2, s3, s4, s5], _ =>
      have b1 := hb s1 (by simp)
      have b2 := hb s2 (by simp)
      have b3 := hb s3 (by simp)
      have b4 := hb s4 (by simp)
      have b5 := hb s5 (by simp)
      have np : ∀ (x : Nat) (r : List Nat), x ∈ ([40, 41, 59] : List Nat) → ¬ ([x] ++ r) ∈ PRS := by
        intro x r hx h
        simp only [List.mem_cons, List.not_mem_nil, or_false] at hx
        rcases hx with rfl | rfl | rfl <;> simp [PRS] at h
      refine ⟨⟨cls_word (hc nm rfl), b1, sg_nw b1 n40, .inr ⟨40, rfl, by decide⟩, b2, fun _ => np 40 _ (by decide), opT_ok he, b3, opT_ends he (sg_nw b3 n41), .inr ⟨41, rfl, by decide⟩, b4, fun _ => np 41 _ (by decide), .inr ⟨59, rfl, by decide⟩, b5, fun _ => np 59 _ (by decide), trivial⟩, ?_⟩
      have hcl := hc nm rfl
      intro c hcc
      simp only [CLS, List.mem_cons, List.not_mem_nil, or_false] at hcl
      rcases hcl with rfl | rfl | rfl | rfl <;> (cases hcc; decide)
/-- what stands ahead of the expression -/
theorem spaced_set {z s1 s2 : List Nat} {tl : List (Tk × List Nat)} (hz : WordOk z) (b1 : ∀ c ∈ s1, c ∈ BLK) (b2 : ∀ c ∈ s2, c ∈ BLK) (h : Spaced tl) (ho : OpdHead (flat tl)) : Spaced ((.word z, s1) :: (.sign [61], s2) :: tl) := by
  refine ⟨opT_ok (e := .var z) (.inr (.inr ⟨z, hz, rfl⟩)), b1, sg_nw b1 (by decide), .inr ⟨61, rfl, by decide⟩, b2, fun _ => ?_, h⟩
  intro hp
  have hh : ∀ c ∈ (s2 ++ flat tl).head?, c ≠ 61 := fun c hc => by
    rcases head_app hc with q | q
    · intro e
      rw [e] at q
      exact absurd (b2 61 q) (by decide)
    · exact ho c q
  cases e : s2 ++ flat tl with
  | nil => rw [e] at hp; simp [PRS] at hp
  | cons c r =>
    rw [e] at hp hh
    have := hh c rfl
    simp [PRS] at hp
    exact this hp
theorem spaced_tell {s1 : List Nat} {tl : List (Tk × List Nat)} (b1 : ∀ c ∈ s1, c ∈ BLK) (n1 : 1 ≤ s1.length) (h : Spaced tl) : Spaced ((.word TELL, s1) :: tl) := by
  refine ⟨⟨by decide, by decide, by decide⟩, b1, ?_, h⟩
  intro c hc
  cases s1 with
  | nil => cases n1
  | cons a s =>
    rw [← Option.some.inj hc]
    exact blk_wch a (b1 a List.mem_cons_self)
theorem flat_zip : ∀ (tk : List Tk) (sps : List (List Nat)), flat (tk.zip sps) = (List.zipWith (· ++ ·) (tk.map Tk.codes) sps).flatten
  | [], _ => rfl
  | _ :: _, [] => rfl
  | t :: tk, s :: sps => by
    show t.codes ++ (s ++ flat (tk.zip sps)) = ((t.codes ++ s) :: List.zipWith (· ++ ·) (tk.map Tk.codes) sps).flatten
    rw [flat_zip tk sps, List.flatten_cons, List.append_assoc]
theorem zip_fst : ∀ (tk : List Tk) (sps : List (List Nat)), sps.length = tk.length → (tk.zip sps).map (·.1) = tk
  | [], [], _ => rfl
  | t :: tk, s :: sps, h => congrArg (t :: ·) (zip_fst tk sps (Nat.succ.inj h))
end Lx

set_option maxHeartbeats 4000000
namespace Lx
open PySem PySem.Spec PyProof.Rows L2 He SX Tx
theorem flat_app : ∀ (a b : List (Tk × List Nat)), flat (a ++ b) = flat a ++ flat b
  | [], _ => rfl
  | (t, s) :: a, b => by
    show t.codes ++ (s ++ flat (a ++ b)) = (t.codes ++ (s ++ flat a)) ++ flat b
    rw [flat_app a b]
    simp
/-- the text is read as the statement -/
theorem read_of {hd : Nat} {z s0 : List Nat} {call : Option (List Nat)} {e : Ex} {hdp : List (Tk × List Nat)} {sps : List (List Nat)} (hz : WordOk z) (he : OpdOk e) (hc : ∀ nm, call = some nm → nm ∈ CLS) (b0 : ∀ c ∈ s0, c ∈ BLK)
    (hdf : hdp.map (·.1) = stT hd z) (hsp : ∀ tl, Spaced tl → OpdHead (flat tl) → Spaced (hdp ++ tl)) (hl : sps.length = (exT call e).length + 1) (hb : ∀ s ∈ sps, ∀ c ∈ s, c ∈ BLK) {t : List Nat} (ht : t = s0 ++ (flat hdp ++ (List.zipWith (· ++ ·) (exC call e ++ [[59]]) sps).flatten)) :
    ∃ ts, Lexed t (runEnd t BLK 0) ts ∧ PTop (allT t ts) 15 1 0 [stOf hd z (exOf call e)] := by
  obtain ⟨h1, h2⟩ := spaced_ex he hc sps hl hb
  have e1 : (exT call e ++ [Tk.sign [59]]).map Tk.codes = exC call e ++ [[59]] := by
    rw [List.map_append, exC_codes he]
    rfl
  have e2 : t = s0 ++ flat (hdp ++ (exT call e ++ [Tk.sign [59]]).zip sps) := by
    rw [ht, flat_app, flat_zip, e1]
  rw [e2]
  refine ⟨_, lexed_text b0 (hsp _ h1 h2), parse_ok hz he hc ?_⟩
  rw [places_fst, List.map_append, hdf, zip_fst _ _ (by rw [hl, List.length_append]; rfl)]
theorem zw_nil : ∀ xs : List (List Nat), (List.zipWith (· ++ ·) xs (xs.map fun _ => ([] : List Nat))).flatten = xs.flatten
  | [] => rfl
  | x :: xs => by
    show (x ++ []) ++ (List.zipWith (· ++ ·) xs (xs.map fun _ => ([] : List Nat))).flatten = x ++ xs.flatten
    rw [zw_nil xs, List.append_nil]
theorem exT_len {call : Option (List Nat)} {e : Ex} (he : OpdOk e) : (exT call e).length = (exC call e).length := by rw [← exC_codes he, List.length_map]
theorem read_line {hd : Nat} {z : List Nat} {call : Option (List Nat)} {e : Ex} (hz : WordOk z) (he : OpdOk e) (hc : ∀ nm, call = some nm → nm ∈ CLS) {L : List Nat} (hL : L = lnW hd z (wE (exOf call e) 0)) :
    ∃ ts, Lexed L (runEnd L BLK 0) ts ∧ PTop (allT L ts) 15 1 0 [stOf hd z (exOf call e)] := by
  obtain ⟨hdp, h1, h2, h3⟩ : ∃ hdp : List (Tk × List Nat), hdp.map (·.1) = stT hd z ∧ L = flat hdp ++ (wE (exOf call e) 0 ++ [59]) ∧ ∀ tl, Spaced tl → OpdHead (flat tl) → Spaced (hdp ++ tl) := by
    have b32 : ∀ c ∈ [32], c ∈ BLK := by decide
    by_cases h0 : hd = 0
    · refine ⟨[(.word z, [32]), (.sign [61], [32])], ?_, ?_, fun tl h1 h2 => spaced_set hz b32 b32 h1 h2⟩
      · unfold stT
        rw [if_pos h0]
        rfl
      · rw [hL]
        unfold lnW
        rw [if_pos h0]
        show z ++ ([32, 61, 32] ++ _) = (z ++ ([32] ++ ([61] ++ ([32] ++ [])))) ++ _
        simp
    · by_cases h1 : hd = 1
      · refine ⟨[(.word TELL, [32])], ?_, ?_, fun tl h1 h2 => spaced_tell b32 (by decide) h1⟩
        · unfold stT
          rw [if_neg h0, if_pos h1]
          rfl
        · rw [hL]
          unfold lnW
          rw [if_neg h0, if_pos h1]
          rfl
      · refine ⟨[], ?_, ?_, fun tl h1 h2 => h1⟩
        · unfold stT
          rw [if_neg h0, if_neg h1]
          rfl
        · rw [hL]
          unfold lnW
          rw [if_neg h0, if_neg h1]
          rfl
  refine read_of (s0 := []) (hdp := hdp) (sps := (exC call e ++ [[59]]).map fun _ => []) hz he hc (fun c h => by cases h) h1 h3 (by rw [List.length_map, exT_len he, List.length_append]; rfl) (fun s hs c h => ?_) ?_
  · obtain ⟨_, _, e⟩ := List.mem_map.mp hs
    rw [← e] at h
    cases h
  · rw [zw_nil, List.flatten_append, exC_flat, h2]
    rfl
theorem read_none {s : List Nat} (h : ∀ c ∈ s, c ∈ BLK) : Lexed s (runEnd s BLK 0) [] ∧ PTop (allT s []) 15 1 0 [] := by
  have z := lexed_text (ps := []) h trivial
  have e : s ++ flat [] = s := List.append_nil s
  rw [e] at z
  exact ⟨z, .nil (ix := s.length) rfl⟩
theorem zip_snoc : ∀ (xs sps : List (List Nat)) {c s : List Nat}, xs[sps.length]? = some c → List.zipWith (· ++ ·) xs (sps ++ [s]) = List.zipWith (· ++ ·) xs sps ++ [c ++ s]
  | [], [], _, _, h => by cases h
  | x :: xs, [], c, s, h => by
    cases h
    show (x ++ s) :: List.zipWith (· ++ ·) xs [] = [] ++ [x ++ s]
    rw [List.zipWith_nil_right]
    rfl
  | [], _ :: _, _, _, h => by cases h
  | x :: xs, p :: sps, c, s, h => congrArg ((x ++ p) :: ·) (zip_snoc xs sps h)
theorem cE_opd {e : Ex} (he : OpdOk e) : cE e = [] := by
  rcases he with ⟨m, hm, rfl⟩ | ⟨l, hl, rfl⟩ | ⟨z, hz, rfl⟩ <;> rfl
theorem cE_of {call : Option (List Nat)} {e : Ex} (he : OpdOk e) : cE (exOf call e) = call.toList := by
  cases call with
  | none => exact cE_opd he
  | some nm =>
    show (cE e ++ []) ++ [nm] = [nm]
    rw [cE_opd he]
    rfl
/-! ### what is told of the statement -/
theorem okS_of {hd : Nat} {z : List Nat} {call : Option (List Nat)} {e : Ex} (hz : WordOk z) (he : OpdOk e) (hc : ∀ nm, call = some nm → nm ∈ CLS) : okS 15 1 [stOf hd z (exOf call e)] := by
  have hX := exOf_len he hc
  have hfe : ∀ k, fit (k + 1) e := fun k => by
    rcases he with ⟨m, hm, rfl⟩ | ⟨l, hl, rfl⟩ | ⟨z, hz, rfl⟩
    · have := small18 hm
      rw [Int.natAbs_natCast] at this
      exact this
    · trivial
    · trivial
  have hf : fit 15 (exOf call e) := by
    cases call with
    | none => exact hfe 14
    | some nm =>
      intro p hp
      rw [List.mem_singleton.mp hp]
      exact hfe 13
  have hzl := hz.len.2
  refine ⟨fun s hs => ?_, ?_, ?_⟩
  · rw [List.mem_singleton.mp hs]
    unfold stOf
    split
    · exact hf
    · split
      · exact hf
      · exact hf
  · have e1 : rowsL [stOf hd z (exOf call e)] = [strS [stOf hd z (exOf call e)]] := by
      unfold stOf
      by_cases h0 : hd = 0
      · rw [if_pos h0]; rfl
      · rw [if_neg h0]
        by_cases h1 : hd = 1
        · rw [if_pos h1]; rfl
        · rw [if_neg h1]; rfl
    rw [e1, str_of]
    show (lnW hd z (wE (exOf call e) 0)).length + 0 + 1 ≤ BIG
    have : (lnW hd z (wE (exOf call e) 0)).length ≤ 60 := by
      unfold lnW
      split
      · simp; omega
      · split
        · simp; omega
        · simp; omega
    exact Nat.le_trans (show _ ≤ 61 by omega) (by decide)
  · have e1 : callL [stOf hd z (exOf call e)] = cE (exOf call e) := by
      unfold stOf
      by_cases h0 : hd = 0
      · rw [if_pos h0]; show cE _ ++ [] = _; simp
      · rw [if_neg h0]
        by_cases h1 : hd = 1
        · rw [if_pos h1]; show cE _ ++ [] = _; simp
        · rw [if_neg h1]; show cE _ ++ [] = _; simp
    rw [e1, cE_of he]
    cases call with
    | none => exact Nat.zero_le _
    | some nm => show 1 ≤ BIG; decide
theorem strOk_S {l : List Nat} (h : ∀ c ∈ l, c < 1114112) : PyData.strOk (S l) = true := by
  show (l.toArray).all (fun c => decide (c < 0x110000)) = true
  rw [List.all_toArray, List.all_eq_true]
  exact fun c hc => decide_eq_true (h c hc)
def Shp (d : PyData) (n : Nat) : Prop := d.canLay0 = true ∧ d.depth ≤ n
def Shps (ds : List PyData) (n : Nat) : Prop := PyData.canLayAll0 ds = true ∧ PyData.depthAll ds ≤ n
theorem Shps.nil {n : Nat} : Shps [] n := ⟨rfl, Nat.zero_le _⟩
theorem Shps.cons {d : PyData} {ds : List PyData} {n : Nat} (a : Shp d n) (b : Shps ds n) : Shps (d :: ds) n := ⟨by
  show (d.canLay0 && PyData.canLayAll0 ds) = true
  rw [a.1, b.1]
  rfl, Nat.max_le.mpr ⟨a.2, b.2⟩⟩
theorem Shps.tup {ds : List PyData} {n : Nat} (a : Shps ds n) : Shp (.tuple ds) (n + 1) := ⟨a.1, Nat.succ_le_succ a.2⟩
theorem shp_int (i : Int) (n : Nat) : Shp (.int i) n := ⟨rfl, Nat.zero_le _⟩
theorem shp_S {l : List Nat} (h : ∀ c ∈ l, c < 1114112) (n : Nat) : Shp (.str (S l)) n := ⟨strOk_S h, Nat.zero_le _⟩
theorem shp_str {x : Str} (h : PyData.strOk x = true) (n : Nat) : Shp (.str x) n := ⟨h, Nat.zero_le _⟩
theorem wch_lt : ∀ c ∈ WCH, c < 1114112 := by decide +kernel
theorem word_shp {z : List Nat} (hz : WordOk z) (n : Nat) : Shp (.str (S z)) n := shp_S (fun c hc => wch_lt c (hz.all c hc)) n
theorem opd_shp {e : Ex} (he : OpdOk e) (n : Nat) : Shp (exD e) (n + 1) := by
  rcases he with ⟨m, hm, rfl⟩ | ⟨l, hl, rfl⟩ | ⟨z, hz, rfl⟩
  · exact (Shps.cons (shp_str (by decide +kernel) n) (.cons (shp_int _ n) .nil)).tup
  · exact (Shps.cons (shp_str (by decide +kernel) n) (.cons (shp_S (fun c hc => by have := (hl.all c hc).2.1; omega) n) .nil)).tup
  · exact (Shps.cons (shp_str (by decide +kernel) n) (.cons (word_shp hz n) .nil)).tup
theorem ex_shp {call : Option (List Nat)} {e : Ex} (he : OpdOk e) (hc : ∀ nm, call = some nm → nm ∈ CLS) : Shp (exD (exOf call e)) 3 := by
  cases call with
  | none => exact opd_shp he 2
  | some nm =>
    have h : ∀ x ∈ CLS, PyData.strOk (S x) = true := by decide +kernel
    exact (Shps.cons (shp_str (by decide +kernel) 2) (.cons (shp_str (h nm (hc nm rfl)) 2) (.cons (Shps.tup (.cons (opd_shp he 0) .nil)) .nil))).tup
theorem shaped_of {hd : Nat} {z : List Nat} {call : Option (List Nat)} {e : Ex} (hz : WordOk z) (he : OpdOk e) (hc : ∀ nm, call = some nm → nm ∈ CLS) : SeqAt.shaped (.tuple (stsD [stOf hd z (exOf call e)])) = true := by
  have hx := ex_shp he hc
  have hs : Shp (stD (stOf hd z (exOf call e))) 4 := by
    unfold stOf
    split
    · exact (Shps.cons (shp_str (by decide +kernel) 3) (.cons (word_shp hz 3) (.cons hx .nil))).tup
    · split
      · exact (Shps.cons (shp_str (by decide +kernel) 3) (.cons hx .nil)).tup
      · exact (Shps.cons (shp_str (by decide +kernel) 3) (.cons hx .nil)).tup
  have hh : Shp (.tuple (stsD [stOf hd z (exOf call e)])) 5 := (Shps.cons hs .nil).tup
  show (PyData.canLay0 _ && decide (PyData.depth _ ≤ 64)) = true
  rw [hh.1, decide_eq_true (Nat.le_trans hh.2 (by decide))]
  rfl
end Lx

set_option maxHeartbeats 4000000
namespace L2
open PySem PySem.Spec PyProof.Rows
theorem fnok_of {P : Program} {w : World} {K : PySem.W.Frag} {mg : Str → Option Value} {base : Heap} {nm ql : Str} {pr : Arguments} {bd : List Stmt} {sc : Scope} {dvs0 : List V} {f : Addr} {fd : FuncData} {N ps : List Str} {k : Nat} {sp : Sp}
    (F : FunD K nm ql pr bd sc dvs0 [] f fd) (S : FnScope N ps sc) (len : ∀ vs H Q E, sp vs H Q E → vs.length = ps.length)
    (hbody : ∀ (cdv : Value) (A : Around) (outer : List Env) (s : Shared) (H : Hp) (vs : List V) (Q : VK) (E : XK), Room k (A.deeper (envOfC ql sc s.heap.objs.size f cdv)) → sp vs H Q E →
      ∃ t, PSs (cxOf CX0 P w K mg base N ql sc f cdv A outer s H E).nox bd t ∧ t { nx := fun _ H' => Q .non H', rt := Q } (start N vs) H) : FnOk P w K mg base CX0 (k + 1) f fd ps sp :=
  F.ok S len fun cdv A outer s H vs Q E hr h => by
    obtain ⟨t, h1, h2⟩ := hbody cdv A outer s H vs Q E hr h
    exact ⟨t, h1.nox, h2⟩
section
variable {X : Cx} {k : Nat} {f C : Addr} {ps : List Str} {sp : Sp}
theorem call_lenC (c : Cal X.prog X.w X.K X.mg X.base k f ps [] sp) (hr : Room (k + 1) X.A) (hm : Meth X.K C "__len__" f) : CallR X (.builtin "len") (rLenOwn C sp E0) := by
  obtain ⟨⟨fd, ds, a, b, r⟩, q⟩ := c
  cases r
  exact call_lenOwn hm a b hr pass0
theorem call_strC (c : Cal X.prog X.w X.K X.mg X.base k f ps [] sp) (hr : Room (k + 2) X.A) (hm : Meth X.K C "__str__" f) : CallR X (.type "str") (rStrOwn C sp E0) := by
  obtain ⟨⟨fd, ds, a, b, r⟩, q⟩ := c
  cases r
  exact call_strOwn hm a b hr pass0
theorem op_eqC (c : Cal X.prog X.w X.K X.mg X.base k f ps [] sp) (hr : Room k X.A) (hm : Meth X.K C "__eq__" f) : OpR X (compareOp .Eq) (rOwnEq X.K C sp E0) := by
  obtain ⟨⟨fd, ds, a, b, r⟩, q⟩ := c
  cases r
  exact op_ownEq hm a b hr pass0
theorem op_inC (c : Cal X.prog X.w X.K X.mg X.base k f ps [] sp) (hr : Room k X.A) (hm : Meth X.K C "__contains__" f) : OpR X (compareOp .In) (rInOwn C sp E0 false) := by
  obtain ⟨⟨fd, ds, a, b, r⟩, q⟩ := c
  cases r
  exact op_inOwn hm a b hr pass0
theorem op_notInC (c : Cal X.prog X.w X.K X.mg X.base k f ps [] sp) (hr : Room k X.A) (hm : Meth X.K C "__contains__" f) : OpR X (compareOp .NotIn) (rInOwn C sp E0 true) := by
  obtain ⟨⟨fd, ds, a, b, r⟩, q⟩ := c
  cases r
  exact op_notInOwn hm a b hr pass0
end
end L2
namespace Lx
open PySem PySem.Spec PyProof.Rows L2 He SX Tx
theorem two_way4 {Y G : List Nat → List Nat → Hp → Prop} {goal : Prop} (main : (∀ L W H, Y L W H → G L W H) → goal) (c : ∀ L W H, Y L W H → G L W H) : goal := main c
theorem joinL_nil : ∀ xs : List (List Nat), TL.joinL [] xs = xs.flatten
  | [] => rfl
  | [x] => by simp [TL.joinL]
  | x :: y :: r => by
    show x ++ ([] ++ TL.joinL [] (y :: r)) = _
    rw [joinL_nil (y :: r)]
    rfl
theorem kE : (" = " : Str) = S [32, 61, 32] := by decide +kernel
theorem kQ : ("=" : Str) = S [61] := by decide +kernel
theorem kT : ("tell " : Str) = S [116, 101, 108, 108, 32] := by decide +kernel
theorem kTL : ("tell" : Str) = S [116, 101, 108, 108] := by decide +kernel
theorem kSC : (";" : Str) = S [59] := by decide +kernel
theorem Scr.butT {K : PySem.W.Frag} {H H' : Hp} {v : V} {ds : List PyData} {a : Addr} {c : Nat} (R : Scr K H v ds) (D : DrawSt K H a c) (b : But a H H') (t : TOs ds) : Scr K H' v ds := by
  obtain ⟨_, _, _, _, _, _, _, h, _⟩ := D
  obtain ⟨p, dx, av, vs, e, hp, hs, hd⟩ := R
  have n : NoTup (H a) := by rw [h]; trivial
  have pa : p ≠ a := fun q => by rw [q, h] at hp; cases hp
  exact ⟨p, dx, av, vs, e, b _ _ pa hp, sqT_butT n b hs, dpa_butT n b hd t⟩
theorem callL_of {hd : Nat} {z : List Nat} {call : Option (List Nat)} {e : Ex} (he : OpdOk e) : callL [stOf hd z (exOf call e)] = call.toList := by
  rw [← cE_of (call := call) he]
  unfold stOf
  by_cases h0 : hd = 0
  · rw [if_pos h0]; show cE _ ++ [] = _; simp
  · rw [if_neg h0]
    by_cases h1 : hd = 1
    · rw [if_pos h1]; show cE _ ++ [] = _; simp
    · rw [if_neg h1]; show cE _ ++ [] = _; simp
theorem cS_ne {call : Option (List Nat)} {nm : List Nat} (h : call = some nm) (hn : nm ∈ CLS) : ¬ V.str (S (cS call)) = V.str "" := fun q => by
  rw [h] at q
  have h3 : nm = [] := S_inj ((V.str.inj q).trans (by decide +kernel))
  rw [h3] at hn
  exact absurd hn (by decide)
theorem dpa_strs {K : PySem.W.Frag} {H : Hp} : ∀ xs : List (List Nat), DpAll K H (xs.map fun x => V.str (S x)) (xs.map fun x => PyData.str (S x))
  | [] => .nil
  | x :: xs => .cons (.str _) (dpa_strs xs)
def DEL : List Nat := [100, 101, 108, 101, 116, 101]
theorem answers_of {call : Option (List Nat)} {st : St} (hc : ∀ nm, call = some nm → nm ∈ CLS) (cst : callL [st] = call.toList) :
    SeqAt.shaped (.list (call.toList.map fun x => .str (S x))) = true ∧ PyData.eqv (.list (call.toList.map fun x => .str (S x))) (.list (call.toList.map fun x => .str (S x))) = true ∧ decide (V.bl (decide (cS call ∈ callL [st])) = V.bl (!decide (V.str (S (cS call)) = V.str ""))) = true ∧ decide (DEL ∈ callL [st]) = false := by
  rw [cst]
  cases call with
  | none => exact ⟨rfl, rfl, by decide +kernel, rfl⟩
  | some nm =>
    have h := hc nm rfl
    have e1 : ∀ x ∈ CLS, SeqAt.shaped (.list [.str (S x)]) = true := by decide +kernel
    have e2 : ∀ x ∈ CLS, decide (DEL ∈ ([x] : List (List Nat))) = false := by decide +kernel
    refine ⟨e1 nm h, PySem.SeqAt.eqv_refl _ (SeqAt.canLay_of_shaped (e1 nm h)), ?_, e2 nm h⟩
    rw [decide_eq_false (cS_ne rfl h), decide_eq_true (show cS (some nm) ∈ (some nm).toList from List.mem_singleton.mpr rfl)]
    rfl
theorem two_way {Y G : Addr → Hp → Prop} {goal : Prop} (main : (∀ u H, Y u H → G u H) → goal) (c : ∀ u H, Y u H → G u H) : goal := main c
def spLaw (K : PySem.W.Frag) : Sp := fun vs H Q _ => ∃ (a : Addr) (ns : List Int), vs = [.ref a] ∧ SqL K H a (ns.map V.int) ∧ ∀ H', Q (.bl true) H'
section
variable {P : Program} {w : World} {K : PySem.W.Frag} {mg : Str → Option Value} {base : Heap}
theorem ok_compound0 (T : Txt w K mg) (ts : TL1) (k : Nat) : Cal P w K mg base (k + 1) (ma K (ga K "Reader") "compound") ["self", "word"] [] (spCompound K ts 15 0) := by
  obtain ⟨fd, F⟩ := T.d_Reader_compound
  have x : ∀ vs H Q E, ¬ spCompound K ts 15 0 vs H Q E := by
    rintro vs H Q E ⟨p, l, z, i, n, s, j, _, _, z, _⟩
    cases z
  exact cal_of F sc_Reader_compound (bi_plain F (F.bindsN fun _ _ _ _ _ _ us hl => match us, hl with | [_, _], _ => rfl)) (fun vs H Q E z => (x _ _ _ _ z).elim) (fun cdv A outer s H vs Q E hr z => (x _ _ _ _ z).elim)
theorem ok_law (T : Txt w K mg) {fd : FuncData} (F : FunD K "law" "law" (defArgs s_law) (defBody s_law) (defScope s_law) [] [] (ga K "law") fd) : FnOk P w K mg base CX0 40 (ga K "law") fd ["script"] (spLaw K) := by
  have c__law_state := ok_state (P := P) (base := base) T
  have c__law_draw := ok_draw (P := P) (base := base) T
  have c__law_word := ok_word (P := P) (base := base) T
  have c__law_space := ok_space (P := P) (base := base) T
  have c__law_operand := ok_opd (P := P) (base := base) T
  have c_Script_read := ok_read0 (P := P) (base := base) T (kx := 15) (m := 1) (fun ts => ok_statement0 T (ok_compound0 T ts 17))
  have c_Script___len__ := ok_len (P := P) (base := base) T
  have c_Script___eq__ := ok_eq (P := P) (base := base) T
  have c_Script0 := ok_script_init0 (P := P) (base := base) T
  have c_block_rows := ok_block_rows0 (P := P) (base := base) T (ok_rows1 T 15)
  have c_block_calls := ok_block_calls0 (P := P) (base := base) T (ok_scalls1 T 15)
  have c_Script___str__ := ok_str (P := P) (base := base) T c_block_rows
  have c_Script___contains__ := ok_contains (P := P) (base := base) T c_block_calls
  have c_Script_call_words := ok_words (P := P) (base := base) T c_block_calls
  refine fnok_of F sc_law (by rintro vs H Q E ⟨a, ns, rfl, _⟩; rfl) (fun cdv A outer s H vs Q E hr h => ?_)
  obtain ⟨l, ns, rfl, hl, q⟩ := h
  have hr__law_state := hr.mono (by decide : 1 ≤ 39)
  have hr__law_draw := hr.mono (by decide : 2 ≤ 39)
  have hr__law_word := hr.mono (by decide : 3 ≤ 39)
  have hr__law_space := hr.mono (by decide : 3 ≤ 39)
  have hr__law_operand := hr.mono (by decide : 4 ≤ 39)
  have hr_read := hr.mono (by decide : 29 ≤ 39)
  have hr___len__ := hr.mono (by decide : 2 ≤ 39)
  have hr___eq__ := hr.mono (by decide : 1 ≤ 39)
  have hr_Script0 := hr.mono (by decide : 2 ≤ 39)
  have hr___str__ := hr.mono (by decide : 21 ≤ 39)
  have hr___contains__ := hr.mono (by decide : 19 ≤ 39)
  have hr_words := hr.mono (by decide : 22 ≤ 39)
  refine ⟨_, (pss_cons (ps_set (i := 1) sc_law.nd rfl (Or.inl rfl) (pe_callC c__law_state hr__law_state T.g__law_state (pa_cons (pv 0) pa_nil)))
 (pss_cons (ps_set (i := 2) sc_law.nd rfl (Or.inl rfl) (pe_callC c__law_operand hr__law_operand T.g__law_operand (pa_cons (pv 1) pa_nil)))
 (pss_cons (ps_set (i := 3) sc_law.nd rfl (Or.inl rfl) (pe_ix ix_list (pe_lst (pa_cons pe_str (pa_cons pe_str (pa_cons pe_str (pa_cons pe_str (pa_cons pe_str pa_nil)))))) (pe_callC c__law_draw hr__law_draw T.g__law_draw (pa_cons (pv 1) (pa_cons pe_int pa_nil))) (fun _ _ => rfl)))
 (pss_cons (ps_set (i := 4) sc_law.nd rfl (Or.inl rfl) (pe_ifExp (pt_cmpR op_eq (pv 3) pe_str (nomark _)) (pe_lst (pa_cons (pv 2) pa_nil)) (pe_lst (pa_cons (pv 3) (pa_cons pe_str (pa_cons (pv 2) (pa_cons pe_str pa_nil)))))))
 (pss_cons (ps_set (i := 5) sc_law.nd rfl (Or.inl rfl) (pe_callC c__law_draw hr__law_draw T.g__law_draw (pa_cons (pv 1) (pa_cons pe_int pa_nil))))
 (pss_cons (ps_set (i := 6) sc_law.nd rfl (Or.inl rfl) (pe_op op_add_str (pe_bm PySem.F.plainAttrs_str PySem.F.slot_str_join PySem.F.type_str_join mt_join pe_str (pa_cons (pv 4) pa_nil)) pe_str))
 (pss_cons (ps_set (i := 7) sc_law.nd rfl (Or.inl rfl) (pe_callC c__law_word hr__law_word T.g__law_word (pa_cons (pv 1) pa_nil)))
 (pss_cons (ps_set (i := 8) sc_law.nd rfl (Or.inl rfl) (pe_callC c__law_space hr__law_space T.g__law_space (pa_cons (pv 1) (pa_cons pe_int pa_nil))))
 (pss_cons (ps_if (pt_cmpR op_eq (pv 5) pe_int (nomark _))
 (pss_cons (ps_set (i := 6) sc_law.nd rfl (Or.inl rfl) (pe_op op_add_str (pe_op op_add_str (pv 7) pe_str) (pv 6)))
 (pss_one (ps_set (i := 8) sc_law.nd rfl (Or.inl rfl) (pe_op op_add_str (pe_op op_add_str (pe_op op_add_str (pe_op op_add_str (pv 8) (pv 7)) (pe_callC c__law_space hr__law_space T.g__law_space (pa_cons (pv 1) (pa_cons pe_int pa_nil)))) pe_str) (pe_callC c__law_space hr__law_space T.g__law_space (pa_cons (pv 1) (pa_cons pe_int pa_nil)))))))
 pss_nil)
 (pss_cons (ps_if (pt_cmpR op_eq (pv 5) pe_int (nomark _))
 (pss_cons (ps_set (i := 6) sc_law.nd rfl (Or.inl rfl) (pe_op op_add_str pe_str (pv 6)))
 (pss_one (ps_set (i := 8) sc_law.nd rfl (Or.inl rfl) (pe_op op_add_str (pe_op op_add_str (pv 8) pe_str) (pe_callC c__law_space hr__law_space T.g__law_space (pa_cons (pv 1) (pa_cons pe_int pa_nil)))))))
 pss_nil)
 (pss_cons (ps_for PassesOwn.never rfl (pi_list (pe_op op_cat (pv 4) (pe_lst (pa_cons pe_str pa_nil)))) (pg_name (i := 9) sc_law.nd rfl (Or.inl rfl))
 (pss_one (ps_set (i := 8) sc_law.nd rfl (Or.inl rfl) (pe_op op_add_str (pe_op op_add_str (pv 8) (pv 9)) (pe_callC c__law_space hr__law_space T.g__law_space (pa_cons (pv 1) (pa_cons pe_int pa_nil)))))))
 (pss_cons (ps_set (i := 10) sc_law.nd rfl (Or.inl rfl) (pe_smethC c_Script_read hr_read T.rd_Script T.sm_Script_read (pe_gR T.g_Script) (pa_cons (pv 8) pa_nil)))
 (pss_cons (ps_if (pw_or (pt_not (pt_val (pe_callB call_isi (by rfl) T.n_isinstance (by decide +kernel) (pa_cons (pv 10) (pa_cons (pe_gR T.g_Script) pa_nil))))) (pw_or (pt_cmpR op_ne (pe_callB (call_lenC c_Script___len__ hr___len__ T.me_Script___len__) (by rfl) T.n_len PySem.boot_len (pa_cons (pv 10) pa_nil)) pe_int (nomark _)) (pw_or1 (pt_cmpR op_ne (pe_callTy (call_strC c_Script___str__ hr___str__ T.me_Script___str__) (by rfl) T.n_str (by decide +kernel) (pa_cons (pv 10) pa_nil)) (pv 6) (nomark _))))).pt
 (pss_one (ps_ret pe_bl))
 pss_nil)
 (pss_cons (ps_set (i := 11) sc_law.nd rfl (Or.inl rfl) (pe_smethC c_Script_read hr_read T.rd_Script T.sm_Script_read (pe_gR T.g_Script) (pa_cons (pv 6) pa_nil)))
 (pss_cons (ps_set (i := 12) sc_law.nd rfl (Or.inl rfl) (pe_smethC c_Script_read hr_read T.rd_Script T.sm_Script_read (pe_gR T.g_Script) (pa_cons (pe_callC c__law_space hr__law_space T.g__law_space (pa_cons (pv 1) (pa_cons pe_int pa_nil))) pa_nil)))
 (pss_cons (ps_if (pw_or (pt_cmpR op_ne (pe_callTy (call_strC c_Script___str__ hr___str__ T.me_Script___str__) (by rfl) T.n_str (by decide +kernel) (pa_cons (pv 11) pa_nil)) (pv 6) (nomark _)) (pw_or (pt_not (pt_cmpR (op_eqC c_Script___eq__ hr___eq__ T.me_Script___eq__) (pv 10) (pv 11) (nomark _))) (pw_or (pt_cmpR (op_eqC c_Script___eq__ hr___eq__ T.me_Script___eq__) (pv 10) (pv 12) (nomark _)) (pw_or (pt_cmpR op_ne (pe_callB (call_lenC c_Script___len__ hr___len__ T.me_Script___len__) (by rfl) T.n_len PySem.boot_len (pa_cons (pv 12) pa_nil)) pe_int (nomark _)) (pw_or1 (pt_cmpR op_ne (pe_callTy (call_strC c_Script___str__ hr___str__ T.me_Script___str__) (by rfl) T.n_str (by decide +kernel) (pa_cons (pv 12) pa_nil)) pe_str (nomark _))))))).pt
 (pss_one (ps_ret pe_bl))
 pss_nil)
 (pss_cons (ps_if (pw_or (pt_not (pt_cmpR (op_eqC c_Script___eq__ hr___eq__ T.me_Script___eq__) (pv 12) (pe_makeC0 c_Script0 hr_Script0 T.m_Script T.g_Script) (nomark _))) (pw_or (pt_cmpR (op_eqC c_Script___eq__ hr___eq__ T.me_Script___eq__) (pv 10) (pv 6) (nomark _)) (pw_or1 (pt_cmpR (op_neD hr.units) (pe_listM0 c_Script_call_words hr_words T.k_Script T.me_Script_call_words T.n_list (pv 12)) (pe_lst pa_nil) (nomark _))))).pt
 (pss_one (ps_ret pe_bl))
 pss_nil)
 (pss_cons (ps_set (i := 13) sc_law.nd rfl (Or.inl rfl) (pe_ifExp (pt_cmpR op_eq (pv 3) pe_str (nomark _)) (pe_lst pa_nil) (pe_lst (pa_cons (pv 3) pa_nil))))
 (pss_one (ps_ret (pe_and (pe_cmpR (op_eqD hr.units) (pe_listM0 c_Script_call_words hr_words T.k_Script T.me_Script_call_words T.n_list (pv 10)) (pv 13) (nomark _)) (pe_and (pe_cmpR op_eq (pe_cmpR (op_inC c_Script___contains__ hr___contains__ T.me_Script___contains__) (pv 3) (pv 10) (by rfl)) (pe_cmpR op_ne (pv 3) pe_str (nomark _)) (nomark _)) (pe_one (pe_cmpR (op_notInC c_Script___contains__ hr___contains__ T.me_Script___contains__) pe_str (pv 10) (by rfl))))))))))))))))))))))))), ?_⟩
  refine ⟨_, rfl, l, ns, rfl, hl, fun a H1 s1 ha D1 => ?_⟩
  refine ⟨_, rfl, a, 0, rfl, by decide, D1, fun e H2 he b2 D2 => ?_⟩
  refine ⟨(by show 5 ≤ sizeLine; decide), fun u hu => ?_⟩
  have iu : (upd H2 u (.lst [.str "", .str "find", .str "written", .str "size", .str "not"])) u = some (.lst [.str "", .str "find", .str "written", .str "size", .str "not"]) := upd_same
  have D3 := D2.same (same_upd hu (.lst [.str "", .str "find", .str "written", .str "size", .str "not"]))
  have ua : u ≠ a := fun q => by
    obtain ⟨_, _, _, _, _, _, _, h, _⟩ := D2
    rw [q, h] at hu
    cases hu
  generalize upd H2 u (.lst [.str "", .str "find", .str "written", .str "size", .str "not"]) = H3 at iu D3 ⊢
  refine ⟨_, rfl, a, 5, 20, rfl, by decide, by decide, by decide, D3, fun r H4 hr4 b4 D4 => ?_⟩
  have iu4 := b4 _ _ ua iu
  obtain ⟨call, hcall, hc⟩ : ∃ call : Option (List Nat), ([.str "", .str "find", .str "written", .str "size", .str "not"] : List V)[r]? = some (.str (S (cS call))) ∧ ∀ nm, call = some nm → nm ∈ CLS := by
    match r, hr4 with
    | 0, _ => exact ⟨none, by decide +kernel, fun nm h => by cases h⟩
    | 1, _ => exact ⟨some [102, 105, 110, 100], by decide +kernel, fun nm h => by cases h; decide⟩
    | 2, _ => exact ⟨some [119, 114, 105, 116, 116, 101, 110], by decide +kernel, fun nm h => by cases h; decide⟩
    | 3, _ => exact ⟨some [115, 105, 122, 101], by decide +kernel, fun nm h => by cases h; decide⟩
    | 4, _ => exact ⟨some [110, 111, 116], by decide +kernel, fun nm h => by cases h; decide⟩
  refine ⟨u, _, r, _, rfl, rfl, SqL.of iu4, atI_nat (j := r) hcall, ?_⟩
  clear iu iu4 D3 ua hcall hr4 hu b2 b4
  apply two_way (Y := fun (u2 : Addr) (H5 : Hp) => DrawSt K H5 a 30 ∧ H5 u2 = some (.lst ((exC call e).map fun x => V.str (S x))))
  · intro cont
    refine ⟨_, rfl, rfl, _, rfl, ?_⟩
    rcases (by cases call; exact .inl rfl; exact .inr ⟨_, rfl⟩ : call = none ∨ ∃ nm, call = some nm) with hcn | ⟨nm, hcn⟩
    · refine iteT' (decide_eq_true (by show V.str (S (cS call)) = V.str ""; rw [hcn]; decide +kernel)) ?_
      refine ⟨_, rfl, (by show 1 ≤ sizeLine; decide), fun u2 hu2 => ?_⟩
      exact cont u2 _ ⟨(D4.mono (by decide)).same (same_upd hu2 _), by rw [hcn]; exact upd_same⟩
    · have nn : ¬ V.str (S (cS call)) = V.str "" := fun h => by
        rw [hcn] at h
        have hcl := hc nm hcn
        have h2 := V.str.inj h
        have h3 : nm = [] := S_inj (h2.trans (by decide +kernel))
        rw [h3] at hcl
        exact absurd hcl (by decide)
      refine iteF' (decide_eq_false nn) ?_
      refine ⟨_, rfl, _, rfl, (by show 4 ≤ sizeLine; decide), fun u2 hu2 => ?_⟩
      refine cont u2 _ ⟨(D4.mono (by decide)).same (same_upd hu2 _), ?_⟩
      rw [hcn, upd_same]
      show some (HO.lst [.str (S nm), .str "(", .str (S (wE e 0)), .str ")"]) = some (HO.lst [.str (S nm), .str (S [40]), .str (S (wE e 0)), .str (S [41])])
      rw [show ("(" : Str) = S [40] by decide +kernel, show (")" : Str) = S [41] by decide +kernel]
  · clear D4 H4
    rintro u2 H5 ⟨D5, i5⟩
    have h6 : u2 ≠ a := fun q => by
      obtain ⟨_, _, _, _, _, _, _, h, _⟩ := D5
      rw [q, h] at i5
      have z := congrArg List.length (HO.lst.inj (Option.some.inj i5))
      rw [List.length_map] at z
      have y := (exC_len he hc).2
      have x : (6 : Nat) = (exC call e).length := z
      omega
    have hX := exOf_len he hc
    have hXf := exC_flat call e
    refine ⟨_, rfl, a, 3, 30, rfl, by decide, by decide, by decide, D5, fun hd H6 hhd b6 D6 => ?_⟩
    have i6 := b6 _ _ h6 i5
    refine ⟨rfl, _, rfl, "", u2, (exC call e).map S, rfl, rfl, .inl (SqL.of (by rw [List.map_map]; exact i6)), ?_, _, _, rfl, rfl, ?_, ?_⟩
    · rw [lens_S, List.length_map, show (("" : Str)).length = 0 by decide +kernel, Nat.mul_zero, Nat.add_zero]
      have y := joinL_len [] (exC call e)
      rw [joinL_nil, hXf] at y
      simp only [List.length_nil, Nat.mul_zero, Nat.add_zero] at y
      exact Nat.le_trans y (Nat.le_trans hX (by decide))
    · rw [show ("" : Str) = S [] by decide +kernel, join_S, joinL_nil, hXf]
      exact (by simp only [kE, kQ, kT, kTL, kSC, S_cat, S_len, List.length_append, List.length_cons, List.length_nil]; exact Nat.le_trans (show _ ≤ 5000 by omega) (by decide))
    have e6 : Txt.join "" ((exC call e).map S) ++ ";" = S (wE (exOf call e) 0 ++ [59]) := by
      rw [show ("" : Str) = S [] by decide +kernel, join_S, joinL_nil, hXf, kSC, S_cat]
    rw [e6]
    generalize wE (exOf call e) 0 = X at hX hXf e6 ⊢
    refine ⟨_, rfl, a, 31, rfl, by decide, D6, fun z H7 hz b7 D7 => ?_⟩
    have hzl := hz.len.2
    refine ⟨_, rfl, a, 0, 41, rfl, by decide, by decide, D7, fun s0 H8 hs0 _ hl0 b8 D8 => ?_⟩
    have i8 := b8 _ _ h6 (b7 _ _ h6 i6)
    apply two_way4 (Y := fun L W H9 => DrawSt K H9 a 100 ∧ H9 u2 = some (.lst ((exC call e).map fun x => V.str (S x))) ∧ L = lnW hd z X ∧ W.length ≤ 40 ∧ ∃ hdp : List (Tk × List Nat), hdp.map (·.1) = stT hd z ∧ W = s0 ++ flat hdp ∧ ∀ tl, Spaced tl → OpdHead (flat tl) → Spaced (hdp ++ tl))
    · intro cont
      refine ⟨_, rfl, rfl, _, rfl, ite2 (fun c0 => ?_) (fun c0 => ?_)⟩
      · have c0 : hd = 0 := by
          have := V.int.inj (of_decide_eq_true c0)
          omega
        obtain ⟨L, hL⟩ : ∃ L, L = lnW hd z X := ⟨_, rfl⟩
        have eL : S z ++ " = " ++ S (X ++ [59]) = S L := by
          rw [hL, kE, S_cat, S_cat, c0]
          show S (z ++ [32, 61, 32] ++ (X ++ [59])) = S (z ++ ([32, 61, 32] ++ (X ++ [59])))
          rw [List.append_assoc]
        refine ⟨_, rfl, _, _, rfl, rfl, (by simp only [kE, kQ, kT, kTL, kSC, S_cat, S_len, List.length_append, List.length_cons, List.length_nil]; exact Nat.le_trans (show _ ≤ 5000 by omega) (by decide)), _, rfl, _, _, rfl, rfl, (by simp only [kE, kQ, kT, kTL, kSC, S_cat, S_len, List.length_append, List.length_cons, List.length_nil]; exact Nat.le_trans (show _ ≤ 5000 by omega) (by decide)), ?_⟩
        rw [eL]
        refine ⟨_, rfl, _, rfl, _, _, rfl, rfl, (by simp only [kE, kQ, kT, kTL, kSC, S_cat, S_len, List.length_append, List.length_cons, List.length_nil]; exact Nat.le_trans (show _ ≤ 5000 by omega) (by decide)), _, rfl, a, 0, 51, rfl, by decide, by decide, D8, fun s1 H9 hs1 _ hl1 b9 D9 => ⟨_, _, rfl, rfl, (by simp only [kE, kQ, kT, kTL, kSC, S_cat, S_len, List.length_append, List.length_cons, List.length_nil]; exact Nat.le_trans (show _ ≤ 5000 by omega) (by decide)), _, _, rfl, rfl, (by simp only [kE, kQ, kT, kTL, kSC, S_cat, S_len, List.length_append, List.length_cons, List.length_nil]; exact Nat.le_trans (show _ ≤ 5000 by omega) (by decide)), _, rfl, a, 0, 61, rfl, by decide, by decide, D9, fun s2 H10 hs2 _ hl2 b10 D10 => ⟨_, _, rfl, rfl, (by simp only [kE, kQ, kT, kTL, kSC, S_cat, S_len, List.length_append, List.length_cons, List.length_nil]; exact Nat.le_trans (show _ ≤ 5000 by omega) (by decide)), ?_⟩⟩⟩
        obtain ⟨W, hW⟩ : ∃ W, W = s0 ++ flat [(.word z, s1), (.sign [61], s2)] := ⟨_, rfl⟩
        have eW : S s0 ++ S z ++ S s1 ++ "=" ++ S s2 = S W := by
          rw [hW, kQ, S_cat, S_cat, S_cat, S_cat]
          show S (s0 ++ z ++ s1 ++ [61] ++ s2) = S (s0 ++ (z ++ (s1 ++ ([61] ++ (s2 ++ [])))))
          simp
        rw [eW]
        refine ⟨_, rfl, rfl, _, rfl, iteF' (decide_eq_false (fun q => by have := V.int.inj q; omega)) ?_⟩
        show tSeq _ _ _ [some (.ref l), some (.ref a), some (.str (S (wE e 0))), some (.str (S (cS call))), some (.ref u2), some (.int hd), some (.str (S L)), some (.str (S z)), some (.str (S W)), none, none, none, none, none] H10
        refine cont L W H10 ⟨D10.mono (by decide), b10 _ _ h6 (b9 _ _ h6 i8), hL, ?_, _, ?_, hW, fun tl h1 h2 => spaced_set hz hs1 hs2 h1 h2⟩
        · rw [hW]
          show (s0 ++ (z ++ (s1 ++ ([61] ++ (s2 ++ []))))).length ≤ 40
          simp
          omega
        · rw [c0]
          rfl
      · have c0 : ¬ hd = 0 := fun q => by
          rw [q] at c0
          exact c0 (decide_eq_true rfl)
        refine ⟨_, rfl, rfl, _, rfl, ite2 (fun c1 => ?_) (fun c1 => ?_)⟩
        · have c1 : hd = 1 := by
            have := V.int.inj (of_decide_eq_true c1)
            omega
          obtain ⟨L, hL⟩ : ∃ L, L = lnW hd z X := ⟨_, rfl⟩
          have eL : ("tell " : Str) ++ S (X ++ [59]) = S L := by
            rw [hL, kT, S_cat, c1]
            rfl
          refine ⟨_, rfl, _, _, rfl, rfl, (by simp only [kE, kQ, kT, kTL, kSC, S_cat, S_len, List.length_append, List.length_cons, List.length_nil]; exact Nat.le_trans (show _ ≤ 5000 by omega) (by decide)), ?_⟩
          rw [eL]
          refine ⟨_, rfl, _, _, rfl, rfl, (by simp only [kE, kQ, kT, kTL, kSC, S_cat, S_len, List.length_append, List.length_cons, List.length_nil]; exact Nat.le_trans (show _ ≤ 5000 by omega) (by decide)), _, rfl, a, 1, 51, rfl, by decide, by decide, D8, fun s1 H9 hs1 hn1 hl1 b9 D9 => ⟨_, _, rfl, rfl, (by simp only [kE, kQ, kT, kTL, kSC, S_cat, S_len, List.length_append, List.length_cons, List.length_nil]; exact Nat.le_trans (show _ ≤ 5000 by omega) (by decide)), ?_⟩⟩
          obtain ⟨W, hW⟩ : ∃ W, W = s0 ++ flat [(.word TELL, s1)] := ⟨_, rfl⟩
          have eW : S s0 ++ "tell" ++ S s1 = S W := by
            rw [hW, kTL, S_cat, S_cat]
            show S (s0 ++ TELL ++ s1) = S (s0 ++ (TELL ++ (s1 ++ [])))
            simp
          rw [eW]
          show tSeq _ _ _ [some (.ref l), some (.ref a), some (.str (S (wE e 0))), some (.str (S (cS call))), some (.ref u2), some (.int hd), some (.str (S L)), some (.str (S z)), some (.str (S W)), none, none, none, none, none] H9
          refine cont L W H9 ⟨D9.mono (by decide), b9 _ _ h6 i8, hL, ?_, _, ?_, hW, fun tl h1 h2 => spaced_tell hs1 hn1 h1⟩
          · rw [hW]
            show (s0 ++ (TELL ++ (s1 ++ []))).length ≤ 40
            have : TELL.length = 4 := rfl
            simp
            omega
          · rw [c1]
            rfl
        · have c1 : ¬ hd = 1 := fun q => by
            rw [q] at c1
            exact c1 (decide_eq_true rfl)
          obtain ⟨L, hL⟩ : ∃ L, L = lnW hd z X := ⟨_, rfl⟩
          have eL : X ++ [59] = L := by
            rw [hL]
            unfold lnW
            rw [if_neg c0, if_neg c1]
          obtain ⟨W, hW⟩ : ∃ W, W = s0 := ⟨_, rfl⟩
          rw [eL, ← hW]
          show tSeq _ _ _ [some (.ref l), some (.ref a), some (.str (S (wE e 0))), some (.str (S (cS call))), some (.ref u2), some (.int hd), some (.str (S L)), some (.str (S z)), some (.str (S W)), none, none, none, none, none] H8
          refine cont L W H8 ⟨D8.mono (by decide), i8, hL, by rw [hW]; omega, [], ?_, by rw [hW]; show s0 = s0 ++ []; simp, fun tl h1 h2 => h1⟩
          unfold stT
          rw [if_neg c0, if_neg c1]
          rfl
    · clear D8 H8 i8 b8
      rintro L W H9 ⟨D9, i9, hL, hWl, hdp, hdf, hW, hsp⟩
      have eT : ((exC call e).map fun x => V.str (S x)) ++ [V.str ";"] = (exC call e ++ [[59]]).map fun x => V.str (S x) := by
        rw [List.map_append, kSC]
        rfl
      obtain ⟨hT1, hT2⟩ := exC_len he hc
      have hTT : ∀ x ∈ exC call e ++ [[59]], x.length ≤ 18 := fun x hx => by
        rcases List.mem_append.mp hx with h | h
        · exact hT1 x h
        · rw [List.mem_singleton.mp h]
          decide
      refine ⟨_, rfl, (by show 1 ≤ sizeLine; decide), fun u3 hu3 => ?_⟩
      have s10 := same_upd hu3 (.lst [V.str ";"])
      refine ⟨u2, u3, _, _, rfl, rfl, s10 _ _ i9, upd_same, ?_, fun u4 hu4 => ?_⟩
      · rw [List.length_map]
        show _ + 1 ≤ sizeLine
        exact Nat.le_trans (show _ ≤ 5 by omega) (by decide)
      rw [eT]
      have s11 := s10.trans (same_upd hu4 (.lst ((exC call e ++ [[59]]).map fun x => V.str (S x))))
      have D11 := D9.same s11
      have i11 : (upd (upd H9 u3 (.lst [V.str ";"])) u4 (.lst ((exC call e ++ [[59]]).map fun x => V.str (S x)))) u4 = some (.lst ((exC call e ++ [[59]]).map fun x => V.str (S x))) := upd_same
      have n4 : u4 ≠ a := fun q => by
        obtain ⟨_, _, _, _, _, _, _, h, _⟩ := D9
        rw [q, s10 _ _ h] at hu4
        cases hu4
      generalize upd (upd H9 u3 (.lst [V.str ";"])) u4 (.lst ((exC call e ++ [[59]]).map fun x => V.str (S x))) = H11 at D11 i11 ⊢
      refine ⟨u4, rfl, ⟨_, SqL.of i11⟩, for_list (xs := (exC call e ++ [[59]]).map fun x => V.str (S x)) (fun i σ H' => ∃ (sps : List (List Nat)) (k9 : Option V), σ = [some (.ref l), some (.ref a), some (.str (S (wE e 0))), some (.str (S (cS call))), some (.ref u2), some (.int hd), some (.str (S L)), some (.str (S z)), some (.str (S (W ++ (List.zipWith (· ++ ·) (exC call e ++ [[59]]) sps).flatten))), k9, none, none, none, none] ∧
        DrawSt K H' a (100 + 10 * i) ∧ H' u4 = some (.lst ((exC call e ++ [[59]]).map fun x => V.str (S x))) ∧ sps.length = i ∧ (∀ s ∈ sps, ∀ c ∈ s, c ∈ BLK) ∧ (W ++ (List.zipWith (· ++ ·) (exC call e ++ [[59]]) sps).flatten).length ≤ 40 + 21 * i) ⟨[], none, ?_, D11, i11, rfl, (fun s h => by cases h), ?_⟩ (fun i σ H' _ h => ?_) (fun i x σ H' hx h => ?_) (fun σ H' h => ?_)⟩
      · rw [List.zipWith_nil_right, List.flatten_nil, List.append_nil]
      · rw [List.zipWith_nil_right, List.flatten_nil, List.append_nil]
        omega
      · obtain ⟨_, _, _, _, h, _⟩ := h
        exact SqL.of h
      · obtain ⟨sps, k9, rfl, D12, i12, hsl, hsb, hsz⟩ := h
        rw [List.getElem?_map] at hx
        obtain ⟨c, hcx, ex⟩ := Option.map_eq_some_iff.mp hx
        subst ex
        have hcl := hTT c (List.mem_of_getElem? hcx)
        have hi5 : i < 5 := by
          have := (List.getElem?_eq_some_iff.mp hcx).1
          rw [List.length_append] at this
          have : i < (exC call e).length + 1 := this
          omega
        generalize hW2 : W ++ (List.zipWith (· ++ ·) (exC call e ++ [[59]]) sps).flatten = W2 at hsz ⊢
        refine ⟨_, rfl, _, rfl, _, _, rfl, rfl, (by simp only [kE, kQ, kT, kTL, kSC, S_cat, S_len, List.length_append, List.length_cons, List.length_nil]; exact Nat.le_trans (show _ ≤ 5000 by omega) (by decide)), _, rfl, a, 0, _, rfl, by decide, by omega, D12, fun s5 H13 hs5 _ hl5 b13 D13 => ⟨_, _, rfl, rfl, (by simp only [kE, kQ, kT, kTL, kSC, S_cat, S_len, List.length_append, List.length_cons, List.length_nil]; exact Nat.le_trans (show _ ≤ 5000 by omega) (by decide)), ?_⟩⟩
        have e3 : W ++ (List.zipWith (· ++ ·) (exC call e ++ [[59]]) (sps ++ [s5])).flatten = W2 ++ c ++ s5 := by
          rw [zip_snoc _ _ (by rw [hsl]; exact hcx), ← hW2]
          simp
        refine ⟨sps ++ [s5], some (.str (S c)), ?_, D13, b13 _ _ n4 i12, by rw [List.length_append, hsl]; rfl, fun s hs => ?_, ?_⟩
        · rw [e3, ← S_cat, ← S_cat]
          rfl
        · rcases List.mem_append.mp hs with h | h
          · exact hsb s h
          · rw [List.mem_singleton.mp h]
            exact hs5
        · rw [e3]
          simp
          omega
      · obtain ⟨sps, k9, rfl, D12, i12, hsl, hsb, hsz⟩ := h
        rw [List.length_map] at hsl D12 hsz
        have hXe : X = wE (exOf call e) 0 := by rw [← hXf, exC_flat]
        rw [hXe] at hL
        obtain ⟨ts1, lx1, pt1⟩ := read_of (hd := hd) (s0 := s0) (hdp := hdp) (sps := sps) (t := W ++ (List.zipWith (· ++ ·) (exC call e ++ [[59]]) sps).flatten) hz he hc hs0 hdf hsp (by rw [hsl, List.length_append, exT_len he]; rfl) hsb (by rw [hW, List.append_assoc])
        obtain ⟨ts2, lx2, pt2⟩ := read_line hz he hc hL
        have okst := okS_of (hd := hd) hz he hc
        have shst := shaped_of (hd := hd) hz he hc
        have stst := str_of hd z (exOf call e)
        rw [← hL] at stst
        have hLl : L.length ≤ 200 := by
          rw [hL]
          unfold lnW
          have := exOf_len he hc
          split
          · simp; omega
          · split
            · simp; omega
            · simp; omega
        have cst := callL_of (hd := hd) (z := z) (call := call) he
        generalize stOf hd z (exOf call e) = st at pt1 pt2 okst shst stst cst ⊢
        have hTl : (exC call e ++ [[59]]).length ≤ 5 := by rw [List.length_append]; show _ + 1 ≤ 5; omega
        generalize W ++ (List.zipWith (· ++ ·) (exC call e ++ [[59]]) sps).flatten = W2 at hsz lx1 pt1 ⊢
        refine ⟨rfl, _, rfl, W2, ts1, [st], rfl, by omega, lx1, by show 1 ≤ 1000; decide, pt1, fun v10 H13 s13 S13 => ?_⟩
        obtain ⟨p, dx, av, vv, rfl, hp, hsq, hdd⟩ := id S13
        refine ⟨_, rfl, _, _, _, _, true, rfl, .own _, .base (.ins hp T.ic_Script.cl T.ic_Script.ha T.ic_Script.hn T.ic_Script.htk T.ic_Script.hm), T.ic_Script.me, _, rfl, iteF ?_⟩
        refine ⟨_, rfl, p, dx, _, rfl, hp, .ref p, [st], rfl, S13, _, rfl, (by show (0 : Int) ≤ 1; decide), (by show (1 : Int) < 2 ^ 63; decide), rfl, _, rfl, iteF' rfl ?_⟩
        refine ⟨_, rfl, p, dx, _, rfl, hp, .ref p, [st], rfl, S13, okst, fun H14 s14 => ⟨_, rfl, _, rfl, rfl, _, rfl, ?_⟩⟩
        rw [stst]
        refine iteF' (by rw [decide_eq_true rfl]; rfl) ?_
        have D14 := (D12.same s13).same s14
        have S14 := S13.same s14
        clear hp hsq hdd S13
        refine ⟨rfl, _, rfl, L, ts2, [st], rfl, by omega, lx2, by show 1 ≤ 1000; decide, pt2, fun v11 H15 s15 S15 => ?_⟩
        have D15 := D14.same s15
        have R15 := S14.same s15
        refine ⟨rfl, _, rfl, a, 0, _, rfl, by decide, by omega, D15, fun s9 H16 hs9 _ hl9 b16 D16 => ?_⟩
        obtain ⟨lx3, pt3⟩ := read_none hs9
        refine ⟨s9, [], [], rfl, by omega, lx3, by show 0 ≤ 1000; decide, pt3, fun v12 H17 s17 S17 => ?_⟩
        have F17 := (R15.butT D15 b16 (stsD_to _)).same s17
        have A17 := (S15.butT D15 b16 (stsD_to _)).same s17
        obtain ⟨p0, dx0, av0, vv0, e0, hp0, hsq0, hdd0⟩ := id F17
        obtain ⟨p1, dx1, av1, vv1, rfl, hp1, hsq1, hdd1⟩ := id A17
        obtain ⟨p2, dx2, av2, vv2, rfl, hp2, hsq2, hdd2⟩ := id S17
        cases e0
        have cl1 : (PyData.tuple (stsD [st])).canLay0 = true := SeqAt.canLay_of_shaped shst
        have ok0 : okS 15 1 [] := ⟨fun s h => (by cases h), (by decide), (by decide)⟩
        refine ⟨_, rfl, p1, dx1, _, rfl, hp1, .ref p1, [st], rfl, A17, okst, fun H18 s18 => ⟨_, rfl, _, rfl, rfl, _, rfl, ?_⟩⟩
        rw [stst]
        refine iteF' (by rw [decide_eq_true rfl]; rfl) ?_
        have F18 := F17.same s18
        have A18 := A17.same s18
        have E18 := S17.same s18
        have q0 := s18 _ _ hp0
        have q1 := s18 _ _ hp1
        have q2 := s18 _ _ hp2
        have sh0 : SeqAt.shaped (.tuple (stsD [])) = true := rfl
        have ev1 : PyData.eqv (.tuple (stsD [st])) (.tuple (stsD [st])) = true := PySem.SeqAt.eqv_refl _ cl1
        refine ⟨_, rfl, _, rfl, p, dx0, _, _, rfl, q0, ⟨_, _, _, q1, rfl⟩, T.nf_Script, .ref p, .ref p1, [st], rfl, F18, shst, .inr ⟨[st], A18, shst, _, rfl, ?_⟩⟩
        rw [ev1]
        refine iteF ?_
        refine ⟨_, rfl, _, rfl, p, dx0, _, _, rfl, q0, ⟨_, _, _, q2, rfl⟩, T.nf_Script, .ref p, .ref p2, [st], rfl, F18, shst, .inr ⟨[], E18, sh0, _, rfl, ?_⟩⟩
        refine iteF ?_
        refine ⟨_, rfl, p2, dx2, _, rfl, q2, .ref p2, [], rfl, E18, _, rfl, (by show (0 : Int) ≤ 0; decide), (by show (0 : Int) < 2 ^ 63; decide), rfl, _, rfl, iteF' rfl ?_⟩
        refine ⟨_, rfl, p2, dx2, _, rfl, q2, .ref p2, [], rfl, E18, ok0, fun H19 s19 => ⟨_, rfl, rfl, _, rfl, iteF' (by decide +kernel) ?_⟩⟩
        have F19 := F18.same s19
        have E19 := E18.same s19
        have r0 := s19 _ _ q0
        have r2 := s19 _ _ q2
        refine ⟨_, rfl, fun p3 dx3 hp3 hdx3 hne3 => ?_⟩
        refine ⟨p3, dx3, _, [], rfl, upd_same, T.dfl_S _, rfl, ?_⟩
        have s20 : Same H19 (upd (upd H19 dx3 (.own p3)) p3 (.ins (ga K "Script") dx3 [])) := (same_upd hdx3 _).trans (same_upd (by rw [upd_ne hne3.symm]; exact hp3) _)
        have s21 := Same.newer s20 hp3 (but_upd (.ins (ga K "Script") dx3 [("statements", .ref (dflAt ("Script", some "__init__") 0 K))]))
        have N21 : Scr K (upd (upd (upd H19 dx3 (.own p3)) p3 (.ins (ga K "Script") dx3 [])) p3 (.ins (ga K "Script") dx3 [("statements", .ref (dflAt ("Script", some "__init__") 0 K))])) (.ref p3) (stsD []) := ⟨p3, dx3, _, [], rfl, upd_same, T.dfl_S _, .nil⟩
        have i21 : (upd (upd (upd H19 dx3 (.own p3)) p3 (.ins (ga K "Script") dx3 [])) p3 (.ins (ga K "Script") dx3 [("statements", .ref (dflAt ("Script", some "__init__") 0 K))])) p3 = some (.ins (ga K "Script") dx3 [("statements", .ref (dflAt ("Script", some "__init__") 0 K))]) := upd_same
        generalize upd (upd (upd H19 dx3 (.own p3)) p3 (.ins (ga K "Script") dx3 [])) p3 (.ins (ga K "Script") dx3 [("statements", .ref (dflAt ("Script", some "__init__") 0 K))]) = H21 at s21 N21 i21 ⊢
        have F21 := F19.same s21
        have E21 := E19.same s21
        have t0 := s21 _ _ r0
        have t2 := s21 _ _ r2
        refine ⟨p2, dx2, _, _, rfl, t2, ⟨_, _, _, i21, rfl⟩, T.nf_Script, .ref p2, .ref p3, [], rfl, E21, sh0, .inr ⟨[], N21, sh0, _, rfl, iteF ?_⟩⟩
        refine ⟨_, rfl, _, rfl, p, dx0, _, _, rfl, t0, rfl, T.ns_Script, .ref p, .str (S L), [st], rfl, F21, shst, .inl ⟨_, rfl, _, rfl, iteF ?_⟩⟩
        refine ⟨_, rfl, p2, dx2, _, rfl, t2, rfl, .ref p2, [], rfl, E21, ok0, fun H22 s22 p4 hp4 => ?_⟩
        have s23 := s22.trans (same_upd hp4 (.lst []))
        refine ⟨(by show 0 ≤ sizeLine; decide), fun p5 hp5 => ⟨.list [], .list [], .lst (SqL.of ((same_upd hp5 _) _ _ upd_same)) .nil, .lst (SqL.of upd_same) .nil, rfl, rfl, _, rfl, iteF ?_⟩⟩
        have s24 := s23.trans (same_upd hp5 (.lst []))
        have F24 := F21.same s24
        have v0 := s24 _ _ t0
        apply two_way (Y := fun (p6 : Addr) (H30 : Hp) => Same H21 H30 ∧ H30 p6 = some (.lst (call.toList.map fun x => V.str (S x))))
        · intro cont
          refine ⟨_, rfl, rfl, _, rfl, ?_⟩
          rcases (by cases call; exact .inl rfl; exact .inr ⟨_, rfl⟩ : call = none ∨ ∃ nm, call = some nm) with hcn | ⟨nm, hcn⟩
          · refine iteT' (decide_eq_true (by show V.str (S (cS call)) = V.str ""; rw [hcn]; decide +kernel)) ?_
            exact ⟨(by show 0 ≤ sizeLine; decide), fun p6 hp6 => cont p6 _ ⟨s24.trans (same_upd hp6 _), by rw [hcn]; exact upd_same⟩⟩
          · refine iteF' (decide_eq_false (cS_ne hcn (hc nm hcn))) ?_
            refine ⟨_, rfl, (by show 1 ≤ sizeLine; decide), fun p6 hp6 => cont p6 _ ⟨s24.trans (same_upd hp6 _), ?_⟩⟩
            rw [upd_same, hcn]
            rfl
        · rintro p6 H30 ⟨s30, i30⟩
          have F30 := F21.same s30
          have x0 := s30 _ _ t0
          obtain ⟨shc, evc, inc, dlc⟩ := answers_of hc cst
          refine ⟨_, rfl, p, dx0, _, rfl, x0, rfl, .ref p, [st], rfl, F30, okst, fun H31 s31 p7 hp7 => ?_⟩
          have s32 := s31.trans (same_upd hp7 (.lst ((callL [st]).map fun x => V.str (S x))))
          refine ⟨_, rfl, .list (call.toList.map fun x => .str (S x)), .list (call.toList.map fun x => .str (S x)), .lst (SqL.of upd_same) (by rw [cst]; exact dpa_strs _), .lst (SqL.of (s32 _ _ i30)) (dpa_strs _), shc, shc, _, rfl, ?_⟩
          rw [evc]
          refine iteT ?_
          have F32 := F30.same s32
          have x2 := s32 _ _ x0
          refine ⟨_, rfl, _, rfl, p, dx0, _, rfl, x2, .ref p, cS call, [st], rfl, F32, okst, fun H33 s33 => ⟨_, rfl, _, rfl, rfl, rfl, ?_⟩⟩
          have inc2 : decide (V.bl (if false = true then !decide (cS call ∈ callL [st]) else decide (cS call ∈ callL [st])) = V.bl !decide (V.str (S (cS call)) = V.str "")) = true := inc
          rw [inc2]
          refine ⟨_, rfl, iteT ?_⟩
          rw [show ("delete" : Str) = S DEL by decide +kernel]
          refine ⟨_, rfl, p, dx0, _, rfl, s33 _ _ x2, .ref p, DEL, [st], rfl, F32.same s33, okst, fun H34 s34 => ⟨_, rfl, ?_⟩⟩
          rw [dlc]
          exact q H34
end
end Lx

set_option maxHeartbeats 4000000
/-! What the head says of tuples at any address, static methods, tables, own classes. -/
namespace Hk2
open PySem PySem.Spec PyProof.Rows L2 He
theorem exAt {l : List (PySem.W.Frag → Bool)} {K : PySem.W.Frag} (h : (l.all fun e => e K) = true) (i : Nat) {e : PySem.W.Frag → Bool} (hi : l[i]? = some e) : e K = true := List.all_eq_true.mp h e (List.mem_of_getElem? hi)
def sqtB (K : PySem.W.Frag) (a : Addr) (vs : List V) : Bool := match K.lookup a with
  | some ⟨c, _, .seq its _, _⟩ => decide (c = .type "tuple") && (decide (its.size ≤ sizeLine) && relAll vs its.toList)
  | _ => false
theorem sqtB_ok {K : PySem.W.Frag} {a : Addr} {vs : List V} (h : sqtB K a vs = true) (H : Hp) : SqT K H a vs := by
  unfold sqtB at h
  split at h
  · rename_i c d its n sl e
    obtain ⟨h1, h2⟩ := ba h
    obtain ⟨h3, h4⟩ := ba h2
    exact .inr ⟨_, its, n, e, of_decide_eq_true h1, rfl, of_decide_eq_true h3, relAll_ok h4⟩
  · cases h
def ksB (K : PySem.W.Frag) (d : Addr) (l : List (Str × Int)) : Bool := l.all fun x => match PySem.W.nsIn K d x.1 with
  | some (some u) => relB (.int x.2) u
  | _ => false
theorem ksB_ok {K : PySem.W.Frag} {d : Addr} {l : List (Str × Int)} (h : ksB K d l = true) : ∀ x ∈ l, ∃ u, PySem.W.nsIn K d x.1 = some (some u) ∧ RelV (.int x.2) u := fun x hx => by
  have q := List.all_eq_true.mp h x hx
  revert q
  show (match PySem.W.nsIn K d x.1 with
    | some (some u) => relB (.int x.2) u
    | _ => false) = true → _
  cases e : PySem.W.nsIn K d x.1 with
  | none => exact fun q => by cases q
  | some o =>
    cases o with
    | none => exact fun q => by cases q
    | some u => exact fun q => ⟨u, rfl, relB_ok q⟩
def smB (K : PySem.W.Frag) (x m : Str) : Bool := (match PySem.W.findCls K (.ref (ga K x)) (.type "type") m with
  | some (.get g a o t) => decide (g = .builtin "staticmethod.__get__") && (decide (a = .ref (Hk.smP K x m)) && (decide (o = .none) && decide (t = .ref (ga K x))))
  | _ => false) && ((match PySem.W.recIn K (Hk.smP K x m) "staticmethod" with
  | some (v :: _) => decide (v = .ref (Hk.smA K x m))
  | _ => false) && PySem.W.keepIn K (.ref (Hk.smA K x m)))
theorem smB_ok {K : PySem.W.Frag} {x m : Str} (h : smB K x m = true) : SMet K (ga K x) (.type "type") m (Hk.smP K x m) (Hk.smA K x m) := by
  obtain ⟨h1, h2⟩ := ba h
  obtain ⟨h2, h3⟩ := ba h2
  refine ⟨?_, ?_, h3⟩
  · revert h1
    cases e : PySem.W.findCls K (.ref (ga K x)) (.type "type") m with
    | none => exact fun q => by cases q
    | some o =>
      cases o with
      | val v => exact fun q => by cases q
      | get g a o t =>
        intro q
        obtain ⟨q1, q⟩ := ba q
        obtain ⟨q2, q⟩ := ba q
        obtain ⟨q3, q4⟩ := ba q
        rw [of_decide_eq_true q1, of_decide_eq_true q2, of_decide_eq_true q3, of_decide_eq_true q4]
  · revert h2
    cases e : PySem.W.recIn K (Hk.smP K x m) "staticmethod" with
    | none => exact fun q => by cases q
    | some l =>
      cases l with
      | nil => exact fun q => by cases q
      | cons v r =>
        intro q
        rw [of_decide_eq_true q]
        exact ⟨r, rfl⟩
def crB (K : PySem.W.Frag) (C : Addr) : Bool := PySem.W.readsIn K C (.type "type") && eqO (PySem.W.specialIn K (.ref C) "__getattribute__") (some (some (.builtin "type.__getattribute__")))
theorem crB_ok {K : PySem.W.Frag} {C : Addr} (h : crB K C = true) : ClX.CRead K C (.type "type") := ⟨(ba h).1, eqO_ok (ba h).2⟩
def icB (K : PySem.W.Frag) (C : Addr) : Bool := eqO (PySem.W.findIn K (.ref C) "__class__") (some (some (.builtin "object.__class__"))) && (eqO (PySem.W.specialIn K (.builtin "object.__class__") "__get__") (some (some (.builtin "getset_descriptor.__get__"))) &&
  (decide (PySem.W.takesIn K (.builtin "object.__class__") = some true) && (decide (PySem.W.mroIn K C (.type "object") = some true) && decide (PySem.W.kitOne K (.ref C) (.ref C) = some true))))
theorem icB_ok {K : PySem.W.Frag} {C : Addr} (c : Cls K C) (h : icB K C = true) : C8.InsC K C := by
  obtain ⟨h1, h⟩ := ba h
  obtain ⟨h2, h⟩ := ba h
  obtain ⟨h3, h⟩ := ba h
  obtain ⟨h4, h5⟩ := ba h
  exact ⟨c, eqO_ok h1, eqO_ok h2, of_decide_eq_true h3, of_decide_eq_true h4, of_decide_eq_true h5⟩
end Hk2

set_option maxHeartbeats 0
namespace Lx
open PySem PySem.Spec PyProof.Rows L2 He SX Tx HandSHeadRun
def fnL : List Hk.DefA := [
  ⟨fun K => (ga K "is_plain"), "is_plain", "is_plain", defArgs s_is_plain, defBody s_is_plain, defScope s_is_plain, []⟩,
  ⟨fun K => (ga K "run_end"), "run_end", "run_end", defArgs s_run_end, defBody s_run_end, defScope s_run_end, []⟩,
  ⟨fun K => (ga K "number_token"), "number_token", "number_token", defArgs s_number_token, defBody s_number_token, defScope s_number_token, []⟩,
  ⟨fun K => (ga K "text_token"), "text_token", "text_token", defArgs s_text_token, defBody s_text_token, defScope s_text_token, []⟩,
  ⟨fun K => (ga K "token_at"), "token_at", "token_at", defArgs s_token_at, defBody s_token_at, defScope s_token_at, []⟩,
  ⟨fun K => (ga K "tokens_of"), "tokens_of", "tokens_of", defArgs s_tokens_of, defBody s_tokens_of, defScope s_tokens_of, []⟩,
  ⟨fun K => (ma K (ga K "Reader") "__init__"), "__init__", "Reader.__init__", defArgs s_Reader___init__, defBody s_Reader___init__, defScope s_Reader___init__, []⟩,
  ⟨fun K => (ma K (ga K "Reader") "worth"), "worth", "Reader.worth", defArgs s_Reader_worth, defBody s_Reader_worth, defScope s_Reader_worth, []⟩,
  ⟨fun K => (ma K (ga K "Reader") "fail"), "fail", "Reader.fail", defArgs s_Reader_fail, defBody s_Reader_fail, defScope s_Reader_fail, []⟩,
  ⟨fun K => (ma K (ga K "Reader") "skip"), "skip", "Reader.skip", defArgs s_Reader_skip, defBody s_Reader_skip, defScope s_Reader_skip, []⟩,
  ⟨fun K => (ma K (ga K "Reader") "need"), "need", "Reader.need", defArgs s_Reader_need, defBody s_Reader_need, defScope s_Reader_need, []⟩,
  ⟨fun K => (ma K (ga K "Reader") "enter"), "enter", "Reader.enter", defArgs s_Reader_enter, defBody s_Reader_enter, defScope s_Reader_enter, []⟩,
  ⟨fun K => (ma K (ga K "Reader") "name"), "name", "Reader.name", defArgs s_Reader_name, defBody s_Reader_name, defScope s_Reader_name, []⟩,
  ⟨fun K => (ma K (ga K "Reader") "braced"), "braced", "Reader.braced", defArgs s_Reader_braced, defBody s_Reader_braced, defScope s_Reader_braced, []⟩,
  ⟨fun K => (ma K (ga K "Reader") "statement"), "statement", "Reader.statement", defArgs s_Reader_statement, defBody s_Reader_statement, defScope s_Reader_statement, []⟩,
  ⟨fun K => (ma K (ga K "Reader") "compound"), "compound", "Reader.compound", defArgs s_Reader_compound, defBody s_Reader_compound, defScope s_Reader_compound, []⟩,
  ⟨fun K => (ma K (ga K "Reader") "other"), "other", "Reader.other", defArgs s_Reader_other, defBody s_Reader_other, defScope s_Reader_other, []⟩,
  ⟨fun K => (ma K (ga K "Reader") "operator"), "operator", "Reader.operator", defArgs s_Reader_operator, defBody s_Reader_operator, defScope s_Reader_operator, []⟩,
  ⟨fun K => (ma K (ga K "Reader") "chain"), "chain", "Reader.chain", defArgs s_Reader_chain, defBody s_Reader_chain, defScope s_Reader_chain, []⟩,
  ⟨fun K => (ma K (ga K "Reader") "operand"), "operand", "Reader.operand", defArgs s_Reader_operand, defBody s_Reader_operand, defScope s_Reader_operand, []⟩,
  ⟨fun K => (ma K (ga K "Reader") "arguments"), "arguments", "Reader.arguments", defArgs s_Reader_arguments, defBody s_Reader_arguments, defScope s_Reader_arguments, []⟩,
  ⟨fun K => (ga K "written_expression"), "written_expression", "written_expression", defArgs s_written_expression, defBody s_written_expression, defScope s_written_expression, [.int 0]⟩,
  ⟨fun K => (ga K "block_rows"), "block_rows", "block_rows", defArgs s_block_rows, defBody s_block_rows, defScope s_block_rows, []⟩,
  ⟨fun K => (ga K "braced_rows"), "braced_rows", "braced_rows", defArgs s_braced_rows, defBody s_braced_rows, defScope s_braced_rows, []⟩,
  ⟨fun K => (ga K "with_other"), "with_other", "with_other", defArgs s_with_other, defBody s_with_other, defScope s_with_other, []⟩,
  ⟨fun K => (ga K "statement_rows"), "statement_rows", "statement_rows", defArgs s_statement_rows, defBody s_statement_rows, defScope s_statement_rows, []⟩,
  ⟨fun K => (ga K "calls_of"), "calls_of", "calls_of", defArgs s_calls_of, defBody s_calls_of, defScope s_calls_of, []⟩,
  ⟨fun K => (ga K "block_calls"), "block_calls", "block_calls", defArgs s_block_calls, defBody s_block_calls, defScope s_block_calls, []⟩,
  ⟨fun K => (ga K "statement_calls"), "statement_calls", "statement_calls", defArgs s_statement_calls, defBody s_statement_calls, defScope s_statement_calls, []⟩,
  ⟨fun K => (ma K (ga K "Script") "__init__"), "__init__", "Script.__init__", defArgs s_Script___init__, defBody s_Script___init__, defScope s_Script___init__, [.adr (dflAt ("Script", some "__init__") 0)]⟩,
  ⟨fun K => (Hk.smA K "Script" "read"), "read", "Script.read", defArgs s_Script_read, defBody s_Script_read, defScope s_Script_read, []⟩,
  ⟨fun K => (ma K (ga K "Script") "call_words"), "call_words", "Script.call_words", defArgs s_Script_call_words, defBody s_Script_call_words, defScope s_Script_call_words, []⟩,
  ⟨fun K => (ma K (ga K "Script") "__contains__"), "__contains__", "Script.__contains__", defArgs s_Script___contains__, defBody s_Script___contains__, defScope s_Script___contains__, []⟩,
  ⟨fun K => (ma K (ga K "Script") "__add__"), "__add__", "Script.__add__", defArgs s_Script___add__, defBody s_Script___add__, defScope s_Script___add__, []⟩,
  ⟨fun K => (ma K (ga K "Script") "__eq__"), "__eq__", "Script.__eq__", defArgs s_Script___eq__, defBody s_Script___eq__, defScope s_Script___eq__, []⟩,
  ⟨fun K => (ma K (ga K "Script") "__len__"), "__len__", "Script.__len__", defArgs s_Script___len__, defBody s_Script___len__, defScope s_Script___len__, []⟩,
  ⟨fun K => (ma K (ga K "Script") "__str__"), "__str__", "Script.__str__", defArgs s_Script___str__, defBody s_Script___str__, defScope s_Script___str__, []⟩,
  ⟨fun K => (ga K "_law_mixed"), "_law_mixed", "_law_mixed", defArgs s__law_mixed, defBody s__law_mixed, defScope s__law_mixed, []⟩,
  ⟨fun K => (ga K "_law_draw"), "_law_draw", "_law_draw", defArgs s__law_draw, defBody s__law_draw, defScope s__law_draw, []⟩,
  ⟨fun K => (ga K "_law_state"), "_law_state", "_law_state", defArgs s__law_state, defBody s__law_state, defScope s__law_state, []⟩,
  ⟨fun K => (ga K "_law_word"), "_law_word", "_law_word", defArgs s__law_word, defBody s__law_word, defScope s__law_word, []⟩,
  ⟨fun K => (ga K "_law_text"), "_law_text", "_law_text", defArgs s__law_text, defBody s__law_text, defScope s__law_text, []⟩,
  ⟨fun K => (ga K "_law_operand"), "_law_operand", "_law_operand", defArgs s__law_operand, defBody s__law_operand, defScope s__law_operand, []⟩,
  ⟨fun K => (ga K "_law_space"), "_law_space", "_law_space", defArgs s__law_space, defBody s__law_space, defScope s__law_space, []⟩,
  ⟨fun K => (ga K "law"), "law", "law", defArgs s_law, defBody s_law, defScope s_law, []⟩]
def faL : List He.Fa := [
  .free "len",
  .free "int",
  .free "list",
  .free "str",
  .free "isinstance",
  .free "tuple",
  .free "enumerate",
  .free "range",
  .glo "is_plain",
  .glo "run_end",
  .glo "number_token",
  .glo "text_token",
  .glo "token_at",
  .glo "tokens_of",
  .glo "written_expression",
  .glo "block_rows",
  .glo "braced_rows",
  .glo "with_other",
  .glo "statement_rows",
  .glo "calls_of",
  .glo "block_calls",
  .glo "statement_calls",
  .glo "_law_mixed",
  .glo "_law_draw",
  .glo "_law_state",
  .glo "_law_word",
  .glo "_law_text",
  .glo "_law_operand",
  .glo "_law_space",
  .glo "law",
  .glo "Reader",
  .glo "Script",
  .glo "PAIRS",
  .glo "KEYWORDS",
  .glo "RANKS",
  .glo "PARAMETERS",
  .int "MOST_SIGNS" 2000,
  .int "MOST_DIGITS" 18,
  .int "COMPARING" 2,
  .int "MOST_NESTED" 12,
  .str "LETTERS" (S LET),
  .str "DIGITS" (S DIG),
  .str "SIGNS" (S SGN),
  .str "BLANKS" (S BLK),
  .cls "Reader",
  .cls "Script",
  .noat "Reader" "tokens",
  .noat "Reader" "at",
  .noat "Reader" "nested",
  .noat "Script" "statements",
  .mkr "Reader",
  .mkr "Script",
  .meth "Reader" "__init__",
  .meth "Reader" "worth",
  .meth "Reader" "fail",
  .meth "Reader" "skip",
  .meth "Reader" "need",
  .meth "Reader" "enter",
  .meth "Reader" "name",
  .meth "Reader" "braced",
  .meth "Reader" "statement",
  .meth "Reader" "compound",
  .meth "Reader" "other",
  .meth "Reader" "operator",
  .meth "Reader" "chain",
  .meth "Reader" "operand",
  .meth "Reader" "arguments",
  .meth "Script" "__init__",
  .meth "Script" "call_words",
  .meth "Script" "__contains__",
  .meth "Script" "__add__",
  .meth "Script" "__eq__",
  .meth "Script" "__len__",
  .meth "Script" "__str__"]
def exL : List (PySem.W.Frag → Bool) := [
  fun K => Hk2.smB K "Script" "read",
  fun K => Hk2.crB K (ga K "Script"),
  fun K => Hk2.sqtB K (ga K "PAIRS") [.str "==", .str "!=", .str "<="],
  fun K => Hk2.sqtB K (ga K "KEYWORDS") [.str "if", .str "else", .str "while", .str "for", .str "in", .str "try", .str "tell", .str "and", .str "or"],
  fun K => Hk2.sqtB K (ga K "RANKS") [.ref (rk K 0), .ref (rk K 1), .ref (rk K 2), .ref (rk K 3), .ref (rk K 4)],
  fun K => Hk2.ksB K (ga K "PARAMETERS") PRM,
  fun K => Hk2.sqtB K (dflAt ("Script", some "__init__") 0 K) [],
  fun K => Hk2.icB K (ga K "Script"),
  fun K => decide (PySem.W.kitOne K (.type "str") (.ref (ga K "Script")) = some false),
  fun K => PySem.W.notFirst K (ga K "Script") (.ref (ga K "Script")),
  fun K => PySem.W.notFirst K (ga K "Script") (.type "str"),
  fun K => (List.range 5).all fun i => Hk2.sqtB K (rk K i) ((RKS.getD i []).map V.str)]
def exB (K : PySem.W.Frag) : Bool := exL.all fun e => e K
def tsL : List He.Tab := [(fun K => ga K "PARAMETERS", ["node", "kids", "text", "kind", "level", "inner", "holder", "find", "size", "item", "written", "not", "insert", "pocket", "change", "move", "copy", "delete"])]
abbrev R : PySem.W.OpenRow := PySem.W.OpenLaw.row PySem.Challenge.rw_pastslips_k70_read_simple_statements
abbrev hk : PySem.W.Hook := Hk.hookY 6 faL exB fnL tsL
def ob (s : PySem.W.SharedT) : Hk.AlY := Hk.obsYG 6 faL exB fnL tsL (HandSHeadRun.getT s)
theorem ob_eq (s : PySem.W.SharedT) : ob s = hk.obs s.abs := Hk.obsYG_eq (HandSHeadRun.getT_eq s)
def loose : List Str := (["MaskError", "InvalidScript", "LETTERS", "DIGITS", "PAIRS", "SIGNS", "BLANKS", "MOST_SIGNS", "MOST_DIGITS", "is_plain", "run_end", "number_token", "text_token", "token_at", "tokens_of", "KEYWORDS", "RANKS", "COMPARING", "MOST_NESTED", "PARAMETERS"] : List Str) ++ (["Reader", "written_expression", "block_rows", "braced_rows", "with_other", "statement_rows", "calls_of", "block_calls", "statement_calls", "Script", "_law_mixed", "_law_draw", "_law_state", "_law_word", "_law_text", "_law_operand", "_law_space"] : List Str)

theorem txt_of {w : World} {K : PySem.W.Frag} {h : Heap} {mg : Str → Option Value} (X : K.In h) (G : h.Ns mainGlobals mg) (c : Hk.SaysY faL exB fnL tsL w K) : Txt w K mg :=
  ⟨He.free_ok X G (c.fact 0 (f := .free "len") rfl),
    He.free_ok X G (c.fact 1 (f := .free "int") rfl),
    He.free_ok X G (c.fact 2 (f := .free "list") rfl),
    He.free_ok X G (c.fact 3 (f := .free "str") rfl),
    He.free_ok X G (c.fact 4 (f := .free "isinstance") rfl),
    He.free_ok X G (c.fact 5 (f := .free "tuple") rfl),
    He.free_ok X G (c.fact 6 (f := .free "enumerate") rfl),
    He.free_ok X G (c.fact 7 (f := .free "range") rfl),
    He.glo_ok X G (c.fact 8 (f := .glo "is_plain") rfl),
    He.glo_ok X G (c.fact 9 (f := .glo "run_end") rfl),
    He.glo_ok X G (c.fact 10 (f := .glo "number_token") rfl),
    He.glo_ok X G (c.fact 11 (f := .glo "text_token") rfl),
    He.glo_ok X G (c.fact 12 (f := .glo "token_at") rfl),
    He.glo_ok X G (c.fact 13 (f := .glo "tokens_of") rfl),
    He.glo_ok X G (c.fact 14 (f := .glo "written_expression") rfl),
    He.glo_ok X G (c.fact 15 (f := .glo "block_rows") rfl),
    He.glo_ok X G (c.fact 16 (f := .glo "braced_rows") rfl),
    He.glo_ok X G (c.fact 17 (f := .glo "with_other") rfl),
    He.glo_ok X G (c.fact 18 (f := .glo "statement_rows") rfl),
    He.glo_ok X G (c.fact 19 (f := .glo "calls_of") rfl),
    He.glo_ok X G (c.fact 20 (f := .glo "block_calls") rfl),
    He.glo_ok X G (c.fact 21 (f := .glo "statement_calls") rfl),
    He.glo_ok X G (c.fact 22 (f := .glo "_law_mixed") rfl),
    He.glo_ok X G (c.fact 23 (f := .glo "_law_draw") rfl),
    He.glo_ok X G (c.fact 24 (f := .glo "_law_state") rfl),
    He.glo_ok X G (c.fact 25 (f := .glo "_law_word") rfl),
    He.glo_ok X G (c.fact 26 (f := .glo "_law_text") rfl),
    He.glo_ok X G (c.fact 27 (f := .glo "_law_operand") rfl),
    He.glo_ok X G (c.fact 28 (f := .glo "_law_space") rfl),
    He.glo_ok X G (c.fact 29 (f := .glo "law") rfl),
    He.glo_ok X G (c.fact 30 (f := .glo "Reader") rfl),
    He.glo_ok X G (c.fact 31 (f := .glo "Script") rfl),
    He.glo_ok X G (c.fact 32 (f := .glo "PAIRS") rfl),
    He.glo_ok X G (c.fact 33 (f := .glo "KEYWORDS") rfl),
    He.glo_ok X G (c.fact 34 (f := .glo "RANKS") rfl),
    He.glo_ok X G (c.fact 35 (f := .glo "PARAMETERS") rfl),
    He.int_ok X G (c.fact 36 (f := .int "MOST_SIGNS" 2000) rfl),
    He.int_ok X G (c.fact 37 (f := .int "MOST_DIGITS" 18) rfl),
    He.int_ok X G (c.fact 38 (f := .int "COMPARING" 2) rfl),
    He.int_ok X G (c.fact 39 (f := .int "MOST_NESTED" 12) rfl),
    He.str_ok X G (c.fact 40 (f := .str "LETTERS" (S LET)) rfl),
    He.str_ok X G (c.fact 41 (f := .str "DIGITS" (S DIG)) rfl),
    He.str_ok X G (c.fact 42 (f := .str "SIGNS" (S SGN)) rfl),
    He.str_ok X G (c.fact 43 (f := .str "BLANKS" (S BLK)) rfl),
    Hk2.sqtB_ok (Hk2.exAt c.more 2 rfl),
    Hk2.sqtB_ok (Hk2.exAt c.more 3 rfl),
    Hk2.sqtB_ok (Hk2.exAt c.more 4 rfl),
    He.cls_ok (c.fact 44 (f := .cls "Reader") rfl),
    He.cls_ok (c.fact 45 (f := .cls "Script") rfl),
    He.noat_ok (c.fact 46 (f := .noat "Reader" "tokens") rfl),
    He.noat_ok (c.fact 47 (f := .noat "Reader" "at") rfl),
    He.noat_ok (c.fact 48 (f := .noat "Reader" "nested") rfl),
    He.noat_ok (c.fact 49 (f := .noat "Script" "statements") rfl),
    He.mkr_ok (c.fact 50 (f := .mkr "Reader") rfl),
    He.mkr_ok (c.fact 51 (f := .mkr "Script") rfl),
    He.meth_ok (c.fact 52 (f := .meth "Reader" "__init__") rfl),
    He.meth_ok (c.fact 53 (f := .meth "Reader" "worth") rfl),
    He.meth_ok (c.fact 54 (f := .meth "Reader" "fail") rfl),
    He.meth_ok (c.fact 55 (f := .meth "Reader" "skip") rfl),
    He.meth_ok (c.fact 56 (f := .meth "Reader" "need") rfl),
    He.meth_ok (c.fact 57 (f := .meth "Reader" "enter") rfl),
    He.meth_ok (c.fact 58 (f := .meth "Reader" "name") rfl),
    He.meth_ok (c.fact 59 (f := .meth "Reader" "braced") rfl),
    He.meth_ok (c.fact 60 (f := .meth "Reader" "statement") rfl),
    He.meth_ok (c.fact 61 (f := .meth "Reader" "compound") rfl),
    He.meth_ok (c.fact 62 (f := .meth "Reader" "other") rfl),
    He.meth_ok (c.fact 63 (f := .meth "Reader" "operator") rfl),
    He.meth_ok (c.fact 64 (f := .meth "Reader" "chain") rfl),
    He.meth_ok (c.fact 65 (f := .meth "Reader" "operand") rfl),
    He.meth_ok (c.fact 66 (f := .meth "Reader" "arguments") rfl),
    He.meth_ok (c.fact 67 (f := .meth "Script" "__init__") rfl),
    He.meth_ok (c.fact 68 (f := .meth "Script" "call_words") rfl),
    He.meth_ok (c.fact 69 (f := .meth "Script" "__contains__") rfl),
    He.meth_ok (c.fact 70 (f := .meth "Script" "__add__") rfl),
    He.meth_ok (c.fact 71 (f := .meth "Script" "__eq__") rfl),
    He.meth_ok (c.fact 72 (f := .meth "Script" "__len__") rfl),
    He.meth_ok (c.fact 73 (f := .meth "Script" "__str__") rfl),
    Hk2.smB_ok (Hk2.exAt c.more 0 rfl),
    Hk2.crB_ok (Hk2.exAt c.more 1 rfl),
    c.def_ 0 rfl,
    c.def_ 1 rfl,
    c.def_ 2 rfl,
    c.def_ 3 rfl,
    c.def_ 4 rfl,
    c.def_ 5 rfl,
    c.def_ 6 rfl,
    c.def_ 7 rfl,
    c.def_ 8 rfl,
    c.def_ 9 rfl,
    c.def_ 10 rfl,
    c.def_ 11 rfl,
    c.def_ 12 rfl,
    c.def_ 13 rfl,
    c.def_ 14 rfl,
    c.def_ 15 rfl,
    c.def_ 16 rfl,
    c.def_ 17 rfl,
    c.def_ 18 rfl,
    c.def_ 19 rfl,
    c.def_ 20 rfl,
    c.def_ 21 rfl,
    c.def_ 22 rfl,
    c.def_ 23 rfl,
    c.def_ 24 rfl,
    c.def_ 25 rfl,
    c.def_ 26 rfl,
    c.def_ 27 rfl,
    c.def_ 28 rfl,
    c.def_ 29 rfl,
    c.def_ 30 rfl,
    c.def_ 31 rfl,
    c.def_ 32 rfl,
    c.def_ 33 rfl,
    c.def_ 34 rfl,
    c.def_ 35 rfl,
    c.def_ 36 rfl,
    c.def_ 37 rfl,
    c.def_ 38 rfl,
    c.def_ 39 rfl,
    c.def_ 40 rfl,
    c.def_ 41 rfl,
    c.def_ 42 rfl,
    c.def_ 43 rfl,
    c.def_ 44 rfl,
    c.tab 0 rfl,
    Hk2.ksB_ok (Hk2.exAt c.more 5 rfl),
    Hk2.sqtB_ok (Hk2.exAt c.more 6 rfl),
    Hk2.icB_ok (He.cls_ok (c.fact 45 (f := .cls "Script") rfl)) (Hk2.exAt c.more 7 rfl),
    of_decide_eq_true (Hk2.exAt c.more 8 rfl),
    (Hk2.exAt c.more 9 rfl),
    (Hk2.exAt c.more 10 rfl),
    fun i hi => Hk2.sqtB_ok (List.all_eq_true.mp (Hk2.exAt c.more 11 rfl) i (List.mem_range.mpr hi))⟩
end Lx

set_option maxHeartbeats 0
namespace Lx
open PySem PySem.Spec PyProof.Rows L2 He HandSHeadRun
theorem runF (w : World) : RunEq R (PySem.W.view R.prog [41]) hk ob 6000 loose (w.withFollow "special-get-raises" false) := by
  intro os
  kernel_rfl
theorem runT (w : World) : RunEq R (PySem.W.view R.prog [41]) hk ob 6000 loose (w.withFollow "special-get-raises" true) := by
  intro os
  kernel_rfl
theorem run (w : World) : RunEq R (PySem.W.view R.prog [41]) hk ob 6000 loose w := PySem.W.byRow2 "special-get-raises" runF runT w
end Lx

set_option maxHeartbeats 0
open PySem PySem.W PySem.Calls PyProof.Rows
theorem PySem.Challenge.cw_pastslips_k70_read_simple_statements_holds : PySem.Challenge.rw_pastslips_k70_read_simple_statements.Holds := by
  w_on; o_law
  refine HandSHeadRun.head_any (r := OpenLaw.row PySem.Challenge.rw_pastslips_k70_read_simple_statements) (q := view (OpenLaw.row PySem.Challenge.rw_pastslips_k70_read_simple_statements).prog [41]) (H := Lx.hk) (ob := Lx.ob) (M := 6000) (loose := Lx.loose)
    (d := HandSHeadRun.topDef (OpenLaw.row PySem.Challenge.rw_pastslips_k70_read_simple_statements).prog 41) (kwd := []) Lx.ob_eq
    (by kernel_rfl) (fun s => by kernel_rfl) Lx.run (by kernel_rfl) (by kernel_rfl) (by kernel_rfl) (by rfl) (by first | assumption | decide +kernel) (by decide +kernel) ⟨rfl, rfl, rfl, rfl, rfl, by decide +kernel⟩ ?hw ?hc
  case hw => w_witness2
  case hc =>
    refine L2.walk_ofE (l := PySem.Challenge.rw_pastslips_k70_read_simple_statements) (n := 63) (k := 40) (x := "script") (CX := L2.CX0) rfl (by decide) (by kernel_rfl) ⟨rfl, by decide, by decide⟩ ?F (fun _ _ _ _ z => z)
    intro w mg fa h Y G hmg0
    obtain ⟨K, KX, c⟩ := Y
    have hmg : mg ("law" : PySem.Str) = some (.ref fa) := by
      have e : (HandSHeadRun.topDef (OpenLaw.row PySem.Challenge.rw_pastslips_k70_read_simple_statements).prog 41).name = ("law" : PySem.Str) := by kernel_rfl
      rw [← e]
      exact hmg0
    have T := Lx.txt_of KX G c
    obtain ⟨fd, F⟩ := T.d_law
    have e := hmg.symm.trans T.g_law
    cases e
    have b := L2.FunD.bindsA (ps := ["script"]) F fun _ _ _ _ _ _ us hl => match us, hl with | [_], _ => rfl
    exact ⟨K, fd, Lx.spLaw K, KX, fun s v => b s [v] rfl, fun H a ns hl _ hS => ⟨a, ns, rfl, hS, fun _ => rfl⟩, fun base _ _ => Lx.ok_law T F⟩
