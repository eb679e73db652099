import PyProof.Rows.All
import Wide.All
import OpenK.AllK
import Wide.FinOn
import HandS.ForMost
import HandS.OwnEq
import HandS.IsInst
import HandS.Property
import HandS.Style
import HandS.Zip
import HandS.Walk
import PyProof.StrOps2
import PyProof.EnumMake
import KE.GoesEnum
import KE.KDictZip
import HandS.Base
import HandS.Call
import HandS.Ends
import HandS.Words
import HandS.Defaults
import HandS.Head0
import HandS.Head1
import HandS.Head2
import HandS.HeadEnd
import HandS.HeadHook1
import HandS.HeadHook2
import PySem.Challenge.RW_mapstack_k79_fingerprints
/-! MyBase -/
set_option Elab.async false
set_option linter.all false
set_option maxRecDepth 100000
set_option maxHeartbeats 4000000
/-! Rules that the hand layer has no row for: own methods asked by built-ins, enumerate of a text, text times int. -/
namespace My
open PySem PySem.Spec PyProof.Rows L2

section
variable {X : Cx} {CX : CXT} {n : Nat} {pins : List (Addr × Obj)} {σ : L2.St} {H : Hp} {s : Shared} {f C : Addr} {fd : FuncData} {ps : List Str} {sp : Sp} {E : XK} {Q : VK} {us : List Value} {vs : List V} {A1 : Around}

/-- a def that is run from within a built-in -/
theorem run_sub (sb : Sub X n A1) (F : FnOk X.prog X.w X.K X.mg X.base CX n f fd ps sp) (hb : Binds X.K fd ps []) (hx : Passes CX X E) (I : Inv X pins σ H s) (r : Vals vs us) (h : sp vs H Q E) :
    wpAny (model X.prog X.w) A1 (call (.ref f) us) (EP X pins σ Q) X.xe s := by
  have hl := F.len _ _ _ _ h
  have e0 : Env0 X.prog X.w X.K X.mg X.base A1 X.stack s H := by
    have e := I.env0
    exact ⟨by rw [sb.fr]; exact e.frames, e.mod, e.bs, e.bsz, e.funs, e.frf, e.hok, e.bare⟩
  have hr := r.length
  refine wpAny_call (codeAny_mono (F.run A1 X.stack s H ⟨us, []⟩ us vs Q E sb.room e0 (by
    have := hb s us I.kIn (by simp only [List.append_nil]; omega)
    simpa using this) r h) fun res s' hq => ?_)
  cases res with
  | error e => exact hx pins σ H s e s' I hq
  | ok fl =>
    cases fl with
    | ret u => exact I.after hq
    | next => exact False.elim hq
    | brk => exact False.elim hq
    | cont => exact False.elim hq

/-- len(o) by an own __len__ -/
def rLenOwn (C : Addr) (sp : Sp) (E : XK) : List V → Hp → VK → Prop := fun xs H Q => ∃ a dx fs, xs = [.ref a] ∧ H a = some (.ins C dx fs) ∧ sp [.ref a] H (fun v H' => ∃ n : Int, v = .int n ∧ (0 ≤ n ∧ n < 2 ^ 63) ∧ Q (.int n) H') E
theorem call_lenOwn (F : FnOk X.prog X.w X.K X.mg X.base CX n f fd ps sp) (hr : Room (n + 1) X.A) (hs : PySem.W.findIn X.K (.ref C) "__len__" = some (some (.ref f))) (hf : PySem.W.isFn X.K (.ref f) = true) (hb : Binds X.K fd ps []) (hx : Passes CX X E) :
    CallR X (.builtin "len") (rLenOwn C sp E) := by
  intro pins s σ H xs us Q I r h
  obtain ⟨a, dx, fs, rfl, ha, hsp⟩ := h
  obtain ⟨u, rfl, ru⟩ := vals1 r
  cases (show u = Value.ref a from ru)
  obtain ⟨mA, J, _⟩ := ins_get I.hok ha
  obtain ⟨od, J, _⟩ := J.look
  obtain ⟨m, hF⟩ := I.fr
  refine PySem.W.len_K hF I.ok.mod.kin J hs hf (thn (run_sub ⟨hr.in1, rfl⟩ F hb hx I (.cons (show RelV (.ref a) (.ref a) from rfl) .nil) hsp) fun v s1 ⟨x, H1, I1, r1, k, ex, hk, q⟩ => ?_)
  subst ex
  obtain ⟨t, rfl⟩ := r1
  exact ⟨hk, ⟨.int k, H1, I1.tok _, ⟨_, rfl⟩, q⟩⟩

/-- o[i] by an own __getitem__ -/
def rIxOwn (C : Addr) (sp : Sp) (E : XK) : R2 := fun x y H Q => ∃ a dx fs, x = .ref a ∧ H a = some (.ins C dx fs) ∧ sp [.ref a, y] H Q E
theorem pe_ixOwn {a b : Expr} {ta tb : TE} {pos : Pos} (F : FnOk X.prog X.w X.K X.mg X.base CX n f fd ps sp) (hr : Room (n + 1) X.A) (hs : PySem.W.findIn X.K (.ref C) "__getitem__" = some (some (.ref f))) (hf : PySem.W.isFn X.K (.ref f) = true) (hfn : PySem.W.fnIn X.K f = true) (hb : Binds X.K fd ps []) (hx : Passes CX X E)
    (ha : PE X a ta) (hbb : PE X b tb) (hsl : ∀ o i, subscripted b true o i = runValue (.builtin "lifetime.subscript" ⟨[o, i], []⟩)) : PE X (.Subscript a b pos) (tOp (rIxOwn C sp E) ta tb) := by
  refine ⟨fun pins s σ H Q I h => ?_⟩
  refine Subscript_ (binT ha hbb I h fun v u s2 x y H2 I2 rx ry q => ?_)
  obtain ⟨o, dx, fs, rfl, ho, hsp⟩ := q
  cases (show v = Value.ref o from rx)
  obtain ⟨mA, J, _⟩ := ins_get I2.hok ho
  obtain ⟨od, J, _⟩ := J.look
  obtain ⟨m, hF⟩ := I2.fr
  exact PySem.W.sub_K hF I2.ok.mod.kin J hs hfn hf (run_sub ⟨hr.in1, rfl⟩ F hb hx I2 (.cons (show RelV (.ref o) (.ref o) from rfl) (.cons ry .nil)) hsp) (hsl _ _)

/-- o == y, o < y .. by an own method that answers with a bool -/
def rCmpOwn (K : PySem.W.Frag) (C : Addr) (sp : Sp) (E : XK) : R2 := fun x y H Q => ∃ a dx fs t, x = .ref a ∧ H a = some (.ins C dx fs) ∧ TyX K H y t ∧ PySem.W.notFirst K C t = true ∧ sp [.ref a, y] H (fun v H' => ∃ b, v = .bl b ∧ Q (.bl b) H') E
theorem op_eqOwn (F : FnOk X.prog X.w X.K X.mg X.base CX n f fd ps sp) (hr : Room n X.A) (hs : PySem.W.findIn X.K (.ref C) "__eq__" = some (some (.ref f))) (hf : PySem.W.isFn X.K (.ref f) = true) (hb : Binds X.K fd ps []) (hx : Passes CX X E) :
    OpR X (compareOp .Eq) (rCmpOwn X.K C sp E) := by
  intro pins s σ H x y v u Q I rx ry h
  obtain ⟨a, dx, fs, t, rfl, ha, ty, hn, hsp⟩ := h
  cases (show v = Value.ref a from rx)
  obtain ⟨mA, J, _⟩ := ins_get I.hok ha
  obtain ⟨od, J, _⟩ := J.look
  obtain ⟨m, hF⟩ := I.fr
  obtain ⟨P, Z, p, hne⟩ := kit_of I ry ty
  show wpAny (model X.prog X.w) X.A (richCompare .Eq (.ref a) u) (EP X pins σ Q) X.xe s
  refine PySem.W.cmp_K (op := .Eq) (tb := t) hr.units0 hF I.ok.mod.kin J (Z.ty _ _ I.kIn p) hn hs hf (thn (run_sub ⟨hr, rfl⟩ F hb hx I (.cons (show RelV (.ref a) (.ref a) from rfl) (.cons ry .nil)) hsp) fun r s1 ⟨z, H1, I1, r1, b, ez, q⟩ => ?_)
  subst ez
  cases (show r = Value.bool b from r1)
  exact ⟨.bl b, H1, I1, rfl, q⟩

theorem rep_app (c : Array Nat) : ∀ (k : Nat) (a : Array Nat), ((List.replicate k c).foldl (· ++ ·) a).size = a.size + c.size * k
  | 0, a => by simp
  | k + 1, a => by
    rw [List.replicate_succ, List.foldl_cons, rep_app c k, Array.size_append, Nat.mul_succ]
    omega
theorem rep_len (a : Str) (k : Nat) : (⟨(List.replicate k a.cps).foldl (· ++ ·) #[]⟩ : Str).length = a.length * k := by
  show ((List.replicate k a.cps).foldl (· ++ ·) #[]).size = a.cps.size * k
  rw [rep_app]
  simp
/-- text * int -/
def rMulS : R2 := fun x y H Q => ∃ (a : Str) (k : Nat), x = .str a ∧ y = .int k ∧ 1 ≤ a.length ∧ 2 ≤ k ∧ a.length * k ≤ 100000 ∧ Q (.str ⟨(List.replicate k a.cps).foldl (· ++ ·) #[]⟩) H
theorem op_mul_str : OpR X (binaryOp .Mult) rMulS := by
  intro pins s σ H x y v u Q I rx ry h
  obtain ⟨a, k, rfl, rfl, ha, hk, hl, q⟩ := h
  obtain ⟨t, rfl⟩ := rx
  obtain ⟨t', rfl⟩ := ry
  have h1 : ¬ ((k : Int) < 1) := by omega
  have hk2 : k ≤ 100000 := Nat.le_trans (Nat.le_mul_of_pos_left k ha) hl
  have h2 : ((k : Int) == 1 || a.length == 0) = false := by
    rw [Bool.or_eq_false_iff]
    exact ⟨beq_eq_false_iff_ne.mpr (by omega), beq_eq_false_iff_ne.mpr (by omega)⟩
  refine PySem.P.mul_str ?_ (fun _ _ => ?_) (fun _ _ => ?_) ?_
  · rw [Bool.or_eq_false_iff]
    exact ⟨decide_eq_false (by omega), decide_eq_false (by omega)⟩
  · have e : a.length ≤ 100000 := Nat.le_trans (Nat.le_mul_of_pos_right a.length (by omega)) hl
    have : (100000 : Int) ≤ (2 ^ 63 - 1) / (k : Int) := by
      rw [Int.le_ediv_iff_mul_le (by omega)]
      omega
    omega
  · rw [Int.toNat_natCast]
    exact decide_eq_false (Nat.not_lt.mpr (Nat.le_trans hl (by decide)))
  · rw [if_neg h1, h2, if_neg Bool.false_ne_true, Int.toNat_natCast]
    exact ⟨by rw [rep_len]; exact Nat.le_trans hl (by decide), ⟨.str _, H, I.tok _, ⟨_, rfl⟩, q⟩⟩
end
end My
/-! MyIter -/
set_option Elab.async false
set_option linter.all false
set_option maxRecDepth 100000
set_option maxHeartbeats 4000000
/-! enumerate over any inner iterator; over a text; over zip of two tuples (the inner pair stays held). -/
namespace My
open PySem PySem.Spec PyProof.Rows L2
open PySem (IsZip IsPair IsEnum IsEnumOut ZipApart)

section
variable {prog : Program} {w : World} {A : Around} {E : Value → Shared → Prop} {s : Shared}

/-- enumerate's next, whatever the inner iterator does at its own -/
theorem enum_item {e it : Addr} {c : Int} {old : Value} {R : Value → Heap → Nat → Prop} {Q : Value → Shared → Prop} (he : IsEnum s.heap e it c old)
    (hnx : ∀ (Q' : Value → Shared → Prop) (E' : Value → Shared → Prop), (∀ x h1 tk, R x h1 tk → IsEnum h1 e it c old → Q' x { s with heap := h1, toks := tk }) → wpAny (model prog w) A (Builtin.SmallTypes.nextOf (.ref it)) Q' E' s)
    (hQ : ∀ x h1 tk h', R x h1 tk → IsEnumOut h' e it (c + 1) x h1.objs.size → IsPair h' h1.objs.size (.int c tk) x → h'.objs.size = h1.objs.size + 1 →
      (∀ b o, b ≠ e → h1.get? b = some o → h'.get? b = some o) → Q (.ref h1.objs.size) { s with heap := h', toks := tk + 1 }) :
    wpAny (model prog w) A (Builtin.«enumerate.__next__» ⟨[.ref e], []⟩) (fun fin s' => ∃ v, fin = .done (.ret v) ∧ Q v s') E s := by
  obtain ⟨hp, g, d, tk₀, os⟩ := s
  show wpAny _ _ (field (.ref e) 2 >>= _) _ _ _
  refine wpAny_bind (wpAny_field he rfl (x := .ref it) rfl ?_)
  refine wpAny_bind (hnx _ _ fun x h₁ tk hR he₁ => ?_)
  show wpAny _ _ (field (.ref e) 3 >>= _) _ _ ⟨h₁, g, d, tk, os⟩
  refine wpAny_bind (wpAny_field he₁ rfl (x := rawInt c) rfl ?_)
  show wpAny _ _ (field (.ref e) 4 >>= _) _ _ ⟨h₁, g, d, tk, os⟩
  refine wpAny_bind (wpAny_field he₁ rfl (x := .none) rfl ?_)
  show wpAny _ _ (mkInt c >>= _) _ _ ⟨h₁, g, d, tk, os⟩
  refine wpAny_bind (wpAny_mkInt ?_)
  show wpAny _ _ (setField (.ref e) 3 (rawInt (c + 1)) >>= _) _ _ ⟨h₁, g, d, tk + 1, os⟩
  refine wpAny_bind (wpAny_setField_rec he₁ (by simp) fun h₂ he₂ hs₂ => ?_)
  replace he₂ : IsEnum h₂ e it (c + 1) old := he₂
  show wpAny _ _ (setField (.ref e) 4 .none >>= _) _ _ ⟨h₂, g, d, tk + 1, os⟩
  refine wpAny_bind (wpAny_setField_rec he₂ (by simp) fun h₃ he₃ hs₃ => ?_)
  replace he₃ : IsEnum h₃ e it (c + 1) old := he₃
  show wpAny _ _ (newTuple [.int c tk, x] >>= _) _ _ ⟨h₃, g, d, tk + 1, os⟩
  refine wpAny_bind (wpAny_newTuple ?_)
  have hsz : h₃.objs.size = h₁.objs.size := by rw [hs₃.1, hs₂.1]
  have hel : e < h₁.objs.size := Heap.lt_size he₁
  have he₄ : IsEnum (h₃.push { cls := .type "tuple", data := .seq #[.int c tk, x] }) e it (c + 1) old := Heap.get?_push_of_some _ he₃
  have ht₄ : IsPair (h₃.push { cls := .type "tuple", data := .seq #[.int c tk, x] }) h₁.objs.size (.int c tk) x := by rw [← hsz]; exact Heap.get?_push_size _ rfl
  have hz₄ : (h₃.push { cls := .type "tuple", data := .seq #[.int c tk, x] }).objs.size = h₁.objs.size + 1 := by rw [Heap.size_push, hsz]
  have hk₄ : ∀ b o, b ≠ e → h₁.get? b = some o → (h₃.push { cls := .type "tuple", data := .seq #[.int c tk, x] }).get? b = some o := fun b o hb q =>
    Heap.get?_push_of_some _ (hs₃.extBut b o hb (hs₂.extBut b o hb q))
  generalize h₃.push { cls := .type "tuple", data := .seq #[.int c tk, x] } = h₄ at he₄ ht₄ hz₄ hk₄
  show wpAny _ _ (Builtin.SmallTypes.ownedTupleIsFree (.ref e) >>= _) _ _ ⟨h₄, g, d, tk + 1, os⟩
  rw [hsz]
  refine wpAny_bind ?_
  unfold Builtin.SmallTypes.ownedTupleIsFree
  refine wpAny_bind (wpAny_field he₄ rfl (x := .none) rfl (wpAny_pure ?_))
  simp only [if_true]
  refine wpAny_bind (wpAny_rule ?_)
  refine wpAny_bind (wpAny_field he₄ rfl (x := old) rfl ?_)
  refine wpAny_bind (wpAny_setField_rec he₄ (by simp) fun h₅ he₅ hs₅ => ?_)
  replace he₅ : IsEnum h₅ e it (c + 1) x := he₅
  show wpAny _ _ (Builtin.SmallTypes.ownedTupleHandOut (.ref e) (.ref h₁.objs.size) >>= _) _ _ ⟨h₅, g, d, tk + 1, os⟩
  refine wpAny_bind ?_
  unfold Builtin.SmallTypes.ownedTupleHandOut
  refine wpAny_bind (wpAny_setField_rec he₅ (by simp) fun h₆ he₆ hs₆ => ?_)
  replace he₆ : IsEnumOut h₆ e it (c + 1) x h₁.objs.size := he₆
  refine wpAny_setField_rec he₆ (by simp) fun h₇ he₇ hs₇ => ?_
  replace he₇ : IsEnumOut h₇ e it (c + 1) x h₁.objs.size := he₇
  have up : ∀ b o, b ≠ e → h₄.get? b = some o → h₇.get? b = some o := fun b o hb q => hs₇.extBut b o hb (hs₆.extBut b o hb (hs₅.extBut b o hb q))
  refine wpAny_bind (wpAny_letGo (wpAny_pure ⟨_, rfl, hQ x h₁ tk h₇ hR he₇ (up _ _ (Nat.ne_of_gt hel) ht₄) ?_ fun b o hb q => up b o hb (hk₄ b o hb q)⟩))
  rw [hs₇.1, hs₆.1, hs₅.1, hz₄]

theorem pyNext_enum_item {e it : Addr} {c : Int} {old : Value} {R : Value → Heap → Nat → Prop} {Q : Option Value → Shared → Prop} (he : IsEnum s.heap e it c old)
    (hnx : ∀ (Q' : Value → Shared → Prop) (E' : Value → Shared → Prop), (∀ x h1 tk, R x h1 tk → IsEnum h1 e it c old → Q' x { s with heap := h1, toks := tk }) → wpAny (model prog w) A.in1 (Builtin.SmallTypes.nextOf (.ref it)) Q' E' s)
    (hQ : ∀ x h1 tk h', R x h1 tk → IsEnumOut h' e it (c + 1) x h1.objs.size → IsPair h' h1.objs.size (.int c tk) x → h'.objs.size = h1.objs.size + 1 →
      (∀ b o, b ≠ e → h1.get? b = some o → h'.get? b = some o) → Q (some (.ref h1.objs.size)) { s with heap := h', toks := tk + 1 }) :
    wpAny (model prog w) A (pyNext (.ref e)) Q E s := by
  have hT : s.TypeIs (.ref e) "enumerate" := ⟨_, he, rfl⟩
  unfold pyNext
  exact wpAny_bind (wpAny_attempt (wpAny_callSpecial?_slot (name := Str.ofString "__next__") hT F.slot_enumerate_next
    (wpAny_call_entry F.slot_enumerate_next hT F.entry_enumerate_next
      (enum_item he hnx fun x h1 tk h' a b c d k => wpAny_pure (hQ x h1 tk h' a b c d k)) (F.args_enumerate_next_1 _))))

theorem pyNext_enum_end {e it : Addr} {c : Int} {old : Value} {R : Heap → Prop} {Q : Option Value → Shared → Prop} (he : IsEnum s.heap e it c old)
    (hnx : ∀ (Q' : Value → Shared → Prop) (E' : Value → Shared → Prop), (∀ h1 x, R h1 → (∃ o, h1.get? x = some o ∧ o.cls = .type "StopIteration") → E' (.ref x) { s with heap := h1 }) → wpAny (model prog w) A.in1 (Builtin.SmallTypes.nextOf (.ref it)) Q' E' s)
    (hQ : ∀ h1, R h1 → Q none { s with heap := h1 }) : wpAny (model prog w) A (pyNext (.ref e)) Q E s := by
  have hT : s.TypeIs (.ref e) "enumerate" := ⟨_, he, rfl⟩
  unfold pyNext
  refine wpAny_bind (wpAny_attempt (wpAny_callSpecial?_slot (name := Str.ofString "__next__") hT F.slot_enumerate_next
    (wpAny_call_entry F.slot_enumerate_next hT F.entry_enumerate_next ?_ (F.args_enumerate_next_1 _))))
  show wpAny _ _ (field (.ref e) 2 >>= _) _ _ _
  refine wpAny_bind (wpAny_field he rfl (x := .ref it) rfl ?_)
  refine wpAny_bind (hnx _ _ fun h1 x hR hx' => ?_)
  obtain ⟨o, ho, hc⟩ := hx'
  refine wpAny_bind (wpAny_isInstance (T := "StopIteration") (b := true) ⟨o, ho, hc⟩ isSubtype_stop ?_)
  exact wpAny_pure (hQ _ hR)
end

/-! ### enumerate(text) -/
/-- the signs of a text, each in a new pair -/
def Iet (z : Str) : It :=
  ⟨fun i _ => i < z.cps.size, fun i H v H' => ∃ T c, v = .ref T ∧ H T = none ∧ H' = upd H T (.tup [.int (i : Nat), .str ⟨#[c]⟩]) ∧ z.cps[i]? = some c, fun i _ => i = z.cps.size⟩
theorem walk_enumT {z : Str} : Walk (Iet z) z.cps.size (fun _ => True) (fun i H v H' => ∃ T c, v = .ref T ∧ H T = none ∧ H' = upd H T (.tup [.int (i : Nat), .str ⟨#[c]⟩]) ∧ z.cps[i]? = some c) :=
  ⟨fun _ _ hi _ => hi, fun _ _ => rfl, fun _ _ _ _ _ _ y => y⟩
theorem turn_enumT {P : Program} {w : World} {K : PySem.W.Frag} {elts : List Expr} {kk : Nat} {tpos : Pos} (z : Str) (t : Tok) (e it : Addr) :
    Turn P w K (.Tuple elts kk tpos) (Iet z) [e, it] e (fun i h => (∃ old, IsEnum h e it ((i : Nat) : Int) old) ∧ h.IsStrIter it (strIterType z) z t i ∧ e ≠ it) where
  mem := by simp
  obj := fun i h st b hb => by
    obtain ⟨⟨old, he⟩, ⟨o, ho, hc, hd⟩, _⟩ := st
    rcases (by simpa using hb : b = e ∨ b = it) with z | z
    · rw [z]; exact ⟨_, he, fun v q => nomatch q⟩
    · rw [z]; exact ⟨o, ho, fun v q => by rw [hd] at q; cases q⟩
  keep := fun i h h' st k => let ⟨⟨old, he⟩, ⟨o, ho, r⟩, hne⟩ := st; ⟨⟨old, k e (by simp) _ he⟩, ⟨o, k it (by simp) o ho, r⟩, hne⟩
  item := by
    intro X hP hw hK hc i pins s σ H E I hf st hg
    subst hP hw hK
    obtain ⟨⟨old, he⟩, hit, hne⟩ := st
    have hel : e < s.heap.objs.size := Heap.lt_size he
    have hil : it < s.heap.objs.size := by obtain ⟨_, q, _⟩ := id hit; exact Heap.lt_size q
    have D := Draws.text (prog := X.prog) (w := X.w) (A := X.A.in1) (I.ok.hd hc) it z t
    refine pyNext_enum_item (R := fun x h1 tk => (∃ c u, z.cps[i]? = some c ∧ x = .str ⟨#[c]⟩ u) ∧ h1.IsStrIter it (strIterType z) z t (i + 1) ∧ Heap.SameBut it s.heap h1) he (fun Q' E' hq => D.item i _ _ _ hg hit fun x h1 tk hP hst hs => hq x h1 tk ⟨hP, hst, hs⟩ ((hs.2 e hne).trans he)) ?_
    rintro x h1 tk h' ⟨⟨c, u, hcu, rfl⟩, hit1, hs1⟩ ho hT hsz hk
    refine ⟨_, rfl, wpAny_letOwnedTupleGo_enum (s := { s with heap := h', toks := tk + 1 }) ho fun h'' he' sb => ?_⟩
    have hz1 : h1.objs.size = s.heap.objs.size := hs1.1
    rw [hz1] at hT hsz
    have hT2 : IsPair h'' s.heap.objs.size (.int i tk) (.str ⟨#[c]⟩ u) := (sb.2 _ (Nat.ne_of_gt hel)).trans hT
    have new : ObjOk X.prog X.w (upd H s.heap.objs.size (.tup [.int (i : Nat), .str ⟨#[c]⟩])) h'' s.heap.objs.size (.tup [.int (i : Nat), .str ⟨#[c]⟩]) :=
      ⟨by show 2 ≤ sizeLine; decide, [.int i tk, .str ⟨#[c]⟩ u], .cons ⟨_, rfl⟩ (.cons ⟨_, rfl⟩ .nil), ⟨_, hT2, rfl, _, rfl⟩⟩
    have I1 : Inv X pins σ (upd H s.heap.objs.size (.tup [.int (i : Nat), .str ⟨#[c]⟩])) { s with heap := h'', toks := tk + 1 } :=
      I.turnedNew (ch := [e, it]) (fun b ob hb q => (sb.2 b (fun z => hb (by simp [z]))).trans (hk b ob (fun z => hb (by simp [z])) ((hs1.2 b (fun z => hb (by simp [z]))).trans q))) hf (Nat.le_refl _) new
    rw [hz1]
    refine ⟨.ref s.heap.objs.size, _, I1, rfl, ⟨_, c, rfl, I.hok.fresh (Nat.le_refl _), rfl, hcu⟩, ⟨⟨.str ⟨#[c]⟩ u, ?_⟩, ?_, hne⟩, fun b hb => ?_⟩
    · have e1 : ((i + 1 : Nat) : Int) = (i : Int) + 1 := by omega
      rw [e1]; exact he'
    · obtain ⟨o, ho1, r⟩ := hit1
      exact ⟨o, (sb.2 it (Ne.symm hne)).trans (hk it o (Ne.symm hne) ho1), r⟩
    · have hb' : b < s.heap.objs.size := by
        rcases (by simpa using hb : b = e ∨ b = it) with z | z
        · rw [z]; exact hel
        · rw [z]; exact hil
      rw [upd_ne (Nat.ne_of_lt hb')]
      exact (hf b hb).1
  done := by
    intro X hP hw hK hc i pins s σ H E I hf st hg
    subst hP hw hK
    obtain ⟨⟨old, he⟩, hit, hne⟩ := st
    obtain ⟨f0, f1, f2, f3, f4, f5⟩ := hf it (by simp)
    have D := Draws.text (prog := X.prog) (w := X.w) (A := X.A.in1) (I.ok.hd hc) it z t
    have hg' : i = z.cps.size := hg
    subst hg'
    exact wpAny_pyNext_enum_endD D he hit fun h' eb => ⟨rfl, I.turned (t' := s.toks) (fun b o hb q => eb b o hb q) f0 f1 f3 f4 f5⟩
  self := fun A i s Q E st h => let ⟨⟨_, he⟩, _⟩ := st; wpAny_pyIter_enum he h
def iEnumT (ta : TA) : TI := fun σ H R => ta σ H fun vs H1 => ∃ z, vs = [.str z] ∧ R (Iet z) H1
theorem pi_enumT {X : Cx} {e : Expr} {ta : TA} {p pos tpos : Pos} {elts : List Expr} {kk : Nat} (hg : Gl X "enumerate") (hm : X.mg "enumerate" = none) (ha : PA X [e] ta) (hs : starEach [e] X.env = [(false, eval e X.env)] := by rfl) :
    PI X (.Tuple elts kk tpos) (.Call (.Name "enumerate" p) [e] [] pos) (iEnumT ta) := by
  refine ⟨fun pins s σ H R I h => ?_⟩
  refine Call_ (ld_blt I hg hm boot_enumerate (PyProof.Rows.callWith_type1 (thn (ha.run pos pins s σ H _ I h) fun us s1 ⟨vs, H1, I1, r1, q1⟩ => ?_) hs rfl))
  obtain ⟨z, ex, q⟩ := q1
  subst ex
  obtain ⟨u, rfl, t, rfl⟩ := vals1 r1
  refine call_enumerate_str fun h' he hit hsz hk => wpAny_pyIter_enum he ?_
  have I2 : Inv X pins σ H1 { s1 with heap := h' } := I1.kept (t' := s1.toks) hk
  refine ⟨s1.heap.objs.size + 1, [s1.heap.objs.size + 1, s1.heap.objs.size], _, _, H1, rfl, I2, turn_enumT z t (s1.heap.objs.size + 1) s1.heap.objs.size, ⟨⟨.none, he⟩, hit, Nat.succ_ne_self _⟩, fun b hb => ?_, q⟩
  have hle : s1.heap.objs.size ≤ b := by
    rcases (by simpa using hb : b = s1.heap.objs.size + 1 ∨ b = s1.heap.objs.size) with y | y
    · rw [y]; exact Nat.le_add_right _ _
    · rw [y]; exact Nat.le_refl _
  exact I1.fpOk hle (I1.hok.fresh hle)
end My
/-! MyData -/
set_option Elab.async false
set_option linter.all false
set_option maxRecDepth 100000
set_option maxHeartbeats 4000000
/-! Data in the heap, and texts by their signs. -/
namespace My
open PySem PySem.Spec PyProof.Rows L2

/-! ### heaps -/
/-- all but what stands at l is as it was -/
def But (l : Addr) (H H' : Hp) : Prop := ∀ b o, H b = some o → b ≠ l → H' b = some o
theorem But.refl (l : Addr) (H : Hp) : But l H H := fun _ _ h _ => h
theorem But.of {l : Addr} {H H' : Hp} (h : Same H H') : But l H H' := fun b o e _ => h b o e
theorem But.trans {l : Addr} {H H1 H2 : Hp} (a : But l H H1) (b : But l H1 H2) : But l H H2 := fun c o h n => b c o (a c o h n) n
theorem But.put {l : Addr} {H H1 : Hp} {o : HO} (a : But l H H1) : But l H (L2.upd H1 l o) := fun c u h n => by
  rw [upd_ne n]
  exact a c u h n
theorem Same.new {H H1 : Hp} {p : Addr} {o : HO} (a : Same H H1) (hp : H1 p = none) : Same H (upd H1 p o) := fun c u h => by
  rw [upd_ne (ne_of_none (a c u h) hp)]
  exact a c u h
theorem But.new {l : Addr} {H H1 : Hp} {p : Addr} {o : HO} (a : But l H H1) (hp : H1 p = none) : But l H (upd H1 p o) := fun c u h n => by
  rw [upd_ne (ne_of_none (a c u h n) hp)]
  exact a c u h n
theorem Same.one (H : Hp) {p : Addr} {o : HO} (hp : H p = none) : Same H (upd H p o) := Same.new (Same.refl H) hp
/-- an object that H does not know may change -/
theorem Same.mut {H H1 : Hp} {p : Addr} {o : HO} (a : Same H H1) (hp : H p = none) : Same H (upd H1 p o) := fun c u h => by
  rw [upd_ne (ne_of_none h hp)]
  exact a c u h
theorem Same.tup {K : PySem.W.Frag} {H H' : Hp} {a : Addr} {xs : List V} (e : Same H H') (h : SqT K H a xs) : SqT K H' a xs := by
  rcases h with (h | ⟨o, h⟩) | h
  · exact .inl (.inl (e _ _ h))
  · exact .inl (.inr ⟨o, e _ _ h⟩)
  · exact .inr h

/-! ### data -/
section
variable {K : PySem.W.Frag} {H H' : Hp}
mutual
theorem dp_same (e : Same H H') : ∀ {v : V} {d : PyData}, Dp K H v d → Dp K H' v d
  | _, _, .non => .non
  | _, _, .bl b => .bl b
  | _, _, .int i => .int i
  | _, _, .str x => .str x
  | _, _, .lst h hs => .lst (e.seq h) (dpAll_same e hs)
  | _, _, .tup h hs => .tup (Same.tup e h) (dpAll_same e hs)
theorem dpAll_same (e : Same H H') : ∀ {vs : List V} {ds : List PyData}, DpAll K H vs ds → DpAll K H' vs ds
  | _, _, .nil => .nil
  | _, _, .cons h hs => .cons (dp_same e h) (dpAll_same e hs)
end
theorem dpAll_len : ∀ {vs : List V} {ds : List PyData}, DpAll K H vs ds → vs.length = ds.length
  | _, _, .nil => rfl
  | _, _, .cons _ hs => congrArg (· + 1) (dpAll_len hs)
theorem dpAll_app : ∀ {vs ws : List V} {ds es : List PyData}, DpAll K H vs ds → DpAll K H ws es → DpAll K H (vs ++ ws) (ds ++ es)
  | _, _, _, _, .nil, h => h
  | _, _, _, _, .cons a b, h => .cons a (dpAll_app b h)
theorem dpAll_take : ∀ {vs : List V} {ds : List PyData} (n : Nat), DpAll K H vs ds → DpAll K H (vs.take n) (ds.take n)
  | _, _, 0, _ => .nil
  | _, _, _ + 1, .nil => .nil
  | _, _, n + 1, .cons a b => .cons a (dpAll_take n b)
theorem dpAll_drop : ∀ {vs : List V} {ds : List PyData} (n : Nat), DpAll K H vs ds → DpAll K H (vs.drop n) (ds.drop n)
  | _, _, 0, h => h
  | _, _, _ + 1, .nil => .nil
  | _, _, n + 1, .cons _ b => dpAll_drop n b
theorem dpAll_get : ∀ {vs : List V} {ds : List PyData} {i : Nat} {v : V}, DpAll K H vs ds → vs[i]? = some v → ∃ d, ds[i]? = some d ∧ Dp K H v d
  | _, _, _, _, .nil, e => by simp at e
  | _, _, 0, _, .cons a _, e => by
    simp at e
    subst e
    exact ⟨_, rfl, a⟩
  | _, _, i + 1, _, .cons _ b, e => by
    obtain ⟨d, h1, h2⟩ := dpAll_get (i := i) b (by simpa using e)
    exact ⟨d, by simpa using h1, h2⟩
theorem dpAll_get' : ∀ {vs : List V} {ds : List PyData} {i : Nat} {d : PyData}, DpAll K H vs ds → ds[i]? = some d → ∃ v, vs[i]? = some v ∧ Dp K H v d
  | _, _, _, _, .nil, e => by simp at e
  | _, _, 0, _, .cons a _, e => by
    simp at e
    subst e
    exact ⟨_, rfl, a⟩
  | _, _, i + 1, _, .cons _ b, e => by
    obtain ⟨d, h1, h2⟩ := dpAll_get' (i := i) b (by simpa using e)
    exact ⟨d, by simpa using h1, h2⟩
theorem dpAll_strs : ∀ (ys : List Str), DpAll K H (ys.map V.str) (ys.map PyData.str)
  | [] => .nil
  | y :: r => .cons (.str y) (dpAll_strs r)
theorem dpAll_ints : ∀ (ys : List Int), DpAll K H (ys.map V.int) (ys.map PyData.int)
  | [] => .nil
  | y :: r => .cons (.int y) (dpAll_ints r)
end

/-! ### texts by their signs -/
abbrev tx (l : List Nat) : Str := ⟨l.toArray⟩
abbrev sg (z : Str) : List Nat := z.cps.toList
theorem sg_tx (l : List Nat) : sg (tx l) = l := rfl
theorem tx_sg (z : Str) : tx (sg z) = z := by
  obtain ⟨a⟩ := z
  show (⟨a.toList.toArray⟩ : Str) = ⟨a⟩
  rw [Array.toArray_toList]
theorem len_sg (z : Str) : z.length = (sg z).length := by simp [sg, Str.length]
theorem tx_inj {a b : List Nat} (h : tx a = tx b) : a = b := by
  have := congrArg sg h
  exact this
theorem sg_app (x y : Str) : sg (x ++ y) = sg x ++ sg y := by
  show (x ++ y).cps.toList = _
  rw [Str.cps_append, Array.toList_append]
theorem tx_app (a b : List Nat) : tx a ++ tx b = tx (a ++ b) := by
  rw [← tx_sg (tx a ++ tx b), sg_app]
theorem len_tx (l : List Nat) : (tx l).length = l.length := by simp [tx, Str.length]

/-- a list cut at each s -/
def cutAt (s : Nat) : List Nat → List (List Nat)
  | [] => [[]]
  | c :: r => if c = s then [] :: cutAt s r else (match cutAt s r with
    | [] => [[c]]
    | p :: q => (c :: p) :: q)
/-- joined with s between -/
def glue (s : Nat) : List (List Nat) → List Nat
  | [] => []
  | [p] => p
  | p :: q :: r => p ++ s :: glue s (q :: r)
theorem cutAt_ne (s : Nat) : ∀ l, cutAt s l ≠ []
  | [] => by simp [cutAt]
  | c :: r => by
    unfold cutAt
    split
    · simp
    · split <;> simp
theorem glue_cons (s : Nat) (p : List Nat) {r : List (List Nat)} (h : r ≠ []) : glue s (p :: r) = p ++ s :: glue s r := by
  cases r with
  | nil => exact absurd rfl h
  | cons q r => rfl
theorem glue_cutAt (s : Nat) : ∀ l, glue s (cutAt s l) = l
  | [] => rfl
  | c :: r => by
    have ih := glue_cutAt s r
    unfold cutAt
    split
    · rename_i e
      rw [glue_cons s [] (cutAt_ne s r), ih, e]
      rfl
    · split
      · rename_i e
        exact absurd e (cutAt_ne s r)
      · rename_i p q e
        rw [e] at ih
        cases q with
        | nil =>
          show c :: p = c :: r
          rw [show p = r from ih]
        | cons q1 q2 =>
          show c :: (p ++ s :: glue s (q1 :: q2)) = c :: r
          rw [show p ++ s :: glue s (q1 :: q2) = r from ih]
theorem cutAt_no (s : Nat) : ∀ l, ∀ p ∈ cutAt s l, s ∉ p
  | [], p, hp => by
    have : p = [] := by simpa [cutAt] using hp
    rw [this]
    simp
  | c :: r, p, hp => by
    have ih := cutAt_no s r
    unfold cutAt at hp
    split at hp
    · rcases List.mem_cons.mp hp with e | hp
      · rw [e]
        simp
      · exact ih p hp
    · rename_i hc
      split at hp
      · rename_i e
        exact absurd e (cutAt_ne s r)
      · rename_i q1 q2 e
        rw [e] at ih
        rcases List.mem_cons.mp hp with h1 | h1
        · rw [h1]
          intro h2
          rcases List.mem_cons.mp h2 with h3 | h3
          · exact hc h3.symm
          · exact ih q1 (List.mem_cons_self ..) h3
        · exact ih p (List.mem_cons_of_mem _ h1)
theorem cutAt_plain (s : Nat) : ∀ p, s ∉ p → cutAt s p = [p]
  | [], _ => rfl
  | c :: r, h => by
    have hc : ¬ c = s := fun e => h (by rw [e]; exact List.mem_cons_self ..)
    unfold cutAt
    rw [if_neg hc, cutAt_plain s r fun e => h (List.mem_cons_of_mem _ e)]
theorem cutAt_app (s : Nat) : ∀ p l, s ∉ p → cutAt s (p ++ s :: l) = p :: cutAt s l
  | [], l, _ => by
    show cutAt s (s :: l) = _
    rw [cutAt, if_pos rfl]
  | c :: r, l, h => by
    have hc : ¬ c = s := fun e => h (by rw [e]; exact List.mem_cons_self ..)
    show cutAt s (c :: (r ++ s :: l)) = _
    rw [cutAt, if_neg hc, cutAt_app s r l fun e => h (List.mem_cons_of_mem _ e)]
theorem cutAt_glue (s : Nat) : ∀ (L : List (List Nat)), L ≠ [] → (∀ p ∈ L, s ∉ p) → cutAt s (glue s L) = L
  | [], h, _ => absurd rfl h
  | [p], _, hp => cutAt_plain s p (hp p (List.mem_singleton.mpr rfl))
  | p :: q :: r, _, hp => by
    rw [glue_cons s p (by simp), cutAt_app s p _ (hp p (List.mem_cons_self ..)), cutAt_glue s (q :: r) (by simp) fun x hx => hp x (List.mem_cons_of_mem _ hx)]
theorem spl_cutAt (s : Nat) : ∀ (l acc : List Nat), TL.spl [s] 0 acc l = (match cutAt s l with | [] => [acc] | p :: q => (acc ++ p) :: q)
  | [], acc => by
    show [acc] = _
    simp [cutAt]
  | c :: r, acc => by
    have hpre : TL.pre [s] (c :: r) = decide (c = s) := by
      show ((c :: r).take 1 == [s]) = _
      rw [Bool.eq_iff_iff]
      simp
    unfold cutAt
    by_cases hc : c = s
    · rw [TL.spl_hit (by rw [hpre]; exact decide_eq_true hc), if_pos hc]
      show acc :: TL.spl [s] 0 [] r = _
      rw [spl_cutAt s r []]
      cases e : cutAt s r with
      | nil => exact absurd e (cutAt_ne s r)
      | cons p q => simp
    · rw [TL.spl_miss (by rw [hpre]; exact decide_eq_false hc), if_neg hc, spl_cutAt s r (acc ++ [c])]
      cases e : cutAt s r with
      | nil => exact absurd e (cutAt_ne s r)
      | cons p q => simp
/-- text.split of one plain sign -/
theorem split_eq (z : Str) (s : Nat) (hs : s < 256) : Txt.split z (tx [s]) = (cutAt s (sg z)).map tx := by
  refine TL.map_tl_inj ?_
  rw [TL.split_spl z (tx [s]) (by simp [TL.tl, tx]) (TL.kind_ok (by simp [tx, hs]))]
  show TL.spl [s] 0 [] (sg z) = _
  rw [spl_cutAt, List.map_map]
  have e1 : (TL.tl ∘ tx) = id := rfl
  rw [e1, List.map_id]
  cases e : cutAt s (sg z) with
  | nil => exact absurd e (cutAt_ne s _)
  | cons p q => simp
theorem join_eq (s : Nat) (L : List (List Nat)) : Txt.join (tx [s]) (L.map tx) = tx (glue s L) := by
  refine TL.ext_tl ?_
  rw [TL.join_eq, TL.tl_join]
  have e1 : (L.map tx).map TL.tl = L := by
    rw [List.map_map]
    exact List.map_id L
  rw [e1]
  show TL.joinL [s] L = glue s L
  clear e1
  induction L with
  | nil => rfl
  | cons p r ih =>
    cases r with
    | nil => rfl
    | cons q r =>
      show p ++ ([s] ++ TL.joinL [s] (q :: r)) = p ++ s :: glue s (q :: r)
      rw [ih]
      rfl
theorem join_nil_eq (L : List (List Nat)) : Txt.join (tx []) (L.map tx) = tx L.flatten := by
  refine TL.ext_tl ?_
  rw [TL.join_eq, TL.tl_join]
  have e1 : (L.map tx).map TL.tl = L := by
    rw [List.map_map]
    exact List.map_id L
  rw [e1]
  show TL.joinL [] L = L.flatten
  clear e1
  induction L with
  | nil => rfl
  | cons p r ih =>
    cases r with
    | nil => simp [TL.joinL]
    | cons q r =>
      show p ++ ([] ++ TL.joinL [] (q :: r)) = (p :: q :: r).flatten
      rw [ih]
      rfl
theorem glue_len (s : Nat) : ∀ (L : List (List Nat)), (glue s L).length + 1 = (L.map fun p => p.length + 1).sum + (if L = [] then 1 else 0)
  | [] => rfl
  | [p] => by simp [glue]
  | p :: q :: r => by
    have ih := glue_len s (q :: r)
    rw [glue_cons s p (by simp)]
    simp only [List.length_append, List.length_cons, List.map_cons, List.sum_cons, if_neg (List.cons_ne_nil _ _)] at ih ⊢
    omega
end My
/-! MyComp -/
set_option Elab.async false
set_option linter.all false
set_option maxRecDepth 100000
set_option maxHeartbeats 4000000
/-! Lists that are made turn by turn: what the other objects are, told of the heap without the list. -/
namespace My
open PySem PySem.Spec PyProof.Rows L2
/-- the heap without D -/
def hide (D : Addr) (H : Hp) : Hp := fun a => if a = D then none else H a
theorem hide_at {D a : Addr} {H : Hp} (h : a ≠ D) : hide D H a = H a := if_neg h
theorem hide_D {D : Addr} {H : Hp} : hide D H D = none := if_pos rfl
theorem hide_le (D : Addr) (H : Hp) : Same (hide D H) H := fun a o h => by
  by_cases e : a = D
  · rw [e, hide_D] at h
    cases h
  · rw [hide_at e] at h
    exact h
theorem hide_upd {D : Addr} {H : Hp} {o : HO} : hide D (upd H D o) = hide D H := by
  funext a
  by_cases e : a = D
  · rw [e, hide_D, hide_D]
  · rw [hide_at e, hide_at e, upd_ne e]
theorem hide_same {D : Addr} {H H' : Hp} (h : Same H H') : Same (hide D H) (hide D H') := fun a o q => by
  by_cases e : a = D
  · rw [e, hide_D] at q
    cases q
  · rw [hide_at e] at q ⊢
    exact h a o q
theorem hide_but {D : Addr} {H H' : Hp} (h : But D H H') : Same (hide D H) (hide D H') := fun a o q => by
  by_cases e : a = D
  · rw [e, hide_D] at q
    cases q
  · rw [hide_at e] at q ⊢
    exact h a o q e
theorem hide_new {D : Addr} {H : Hp} (h : H D = none) : Same H (hide D H) := fun a o q => by
  rw [hide_at (ne_of_none q h)]
  exact q
theorem hide_of {D : Addr} {H H' : Hp} (h : H D = none) (s : Same H H') : Same H (hide D H') := fun a o q => by
  rw [hide_at (ne_of_none q h)]
  exact s a o q
theorem but_hide (D : Addr) (H : Hp) : But D H (hide D H) := fun a o q n => by rw [hide_at n]; exact q
section
variable {K : PySem.W.Frag} {J : It} {n : Nat} {G : Hp → Prop} {Y : Nat → Hp → V → Hp → Prop}
theorem take_next {α : Type} {l : List α} {i : Nat} {x : α} (h : l[i]? = some x) : l.take (i + 1) = l.take i ++ [x] := by
  rw [List.take_succ, h]
  rfl
/-- [e for x in it], the objects kept; ds: the data of what is made -/
theorem lc_map (w : Walk J n G Y) {g : TG} {te : TE} {vs : List Nat} {σ : L2.St} {H1 : Hp} {D : Addr} {Qd : Hp → Prop} (ds : List PyData) (hD : H1 D = none) (hn : ds.length = n) (hz : n < sizeLine) (hG : ∀ H, Same H1 H → G H)
    (hs : ∀ i x d acc H H' (Done : VK), ds[i]? = some d → Same H1 H → H D = some (.lst acc) → Y i H x H' → (∀ y H4, Same H H4 → Dp K (hide D H4) y d → Done y H4) → g x (wipe σ vs) H' fun σ2 H2 => wipe σ2 vs = wipe σ vs ∧ te σ2 H2 Done)
    (hd : ∀ H xs, Same H1 (hide D H) → H D = some (.lst xs) → DpAll K (hide D H) xs ds → Qd H) :
    ∃ W : Nat → Nat → Hp → Prop, (∃ m, W 0 m (upd H1 D (.lst []))) ∧ ∀ i m H, W i m H →
      (J.stop i H ∧ Qd H) ∨ (J.go i H ∧ ∃ Nx : Hp → Prop, (∀ H', Nx H' → ∃ m', m' < m ∧ W (i + 1) m' H') ∧ ∀ x H', J.yld i H x H' → g x (wipe σ vs) H' fun σ2 H2 => wipe σ2 vs = wipe σ vs ∧ tYes σ2 H2 fun b H3 =>
        if b = true then te σ2 H3 fun y H4 => ∃ acc, H4 D = some (.lst acc) ∧ acc.length < sizeLine ∧ Nx (upd H4 D (.lst (acc ++ [y]))) else Nx H3) := by
  have e1 : ∀ H, Same H1 (hide D H) → Same H1 H := fun H h => Same.trans h (hide_le D H)
  refine lc_it w (fun i H => Same H1 (hide D H) ∧ ∃ vs, H D = some (.lst vs) ∧ DpAll K (hide D H) vs (ds.take i)) ⟨by rw [hide_upd]; exact hide_new hD, [], upd_same, .nil⟩ (fun i H _ h => hG H (e1 H h.1)) ?_ ?_
  · rintro i x H H' hi ⟨s, vs, hv, dv⟩ y
    have hi' : i < ds.length := by omega
    refine hs i x ds[i] vs H H' _ (List.getElem?_eq_getElem hi') (e1 H s) hv y ?_
    intro y H4 s4 dy
    refine ⟨vs, s4 _ _ hv, ?_, ?_⟩
    · rw [dpAll_len dv, List.length_take]
      omega
    · refine ⟨by rw [hide_upd]; exact Same.trans s (hide_same s4), vs ++ [y], upd_same, ?_⟩
      rw [hide_upd, take_next (List.getElem?_eq_getElem hi')]
      exact dpAll_app (dpAll_same (hide_same s4) dv) (.cons dy .nil)
  · rintro H ⟨s, vs, hv, dv⟩
    refine hd H vs s hv ?_
    rw [List.take_of_length_le (by omega)] at dv
    exact dv
end
theorem keep1 {H : Hp} {p x : Addr} {o u : HO} (h : H p = none) (hx : H x = some u) : upd H p o x = some u := by
  rw [upd_ne (ne_of_none hx h)]
  exact hx
theorem four {H : Hp} {p1 p2 p3 p4 : Addr} {o1 o2 o3 o4 : HO} (h1 : H p1 = none) (h2 : upd H p1 o1 p2 = none) (h3 : upd (upd H p1 o1) p2 o2 p3 = none) (h4 : upd (upd (upd H p1 o1) p2 o2) p3 o3 p4 = none) :
    Same H (upd (upd (upd (upd H p1 o1) p2 o2) p3 o3) p4 o4) := Same.trans (Same.one _ h1) (Same.trans (Same.one _ h2) (Same.trans (Same.one _ h3) (Same.one _ h4)))
/-! ### lists and tuples alone -/
def sq : HO → Bool
  | .lst _ => true
  | .tup _ => true
  | .frz _ _ => true
  | _ => false
def Seqs (H H' : Hp) : Prop := ∀ a o, H a = some o → sq o = true → H' a = some o
theorem Seqs.of {H H' : Hp} (h : Same H H') : Seqs H H' := fun a o e _ => h a o e
theorem Seqs.trans {H H1 H2 : Hp} (a : Seqs H H1) (b : Seqs H1 H2) : Seqs H H2 := fun c o h q => b c o (a c o h q) q
/-- what is no list, no tuple may change -/
theorem Seqs.put {H H1 : Hp} {x : Addr} {o u : HO} (a : Seqs H H1) (hx : H x = some u) (hu : sq u = false) : Seqs H (upd H1 x o) := fun c v h q => by
  have n : c ≠ x := fun e => by
    rw [e, hx] at h
    cases h
    rw [hu] at q
    cases q
  rw [upd_ne n]
  exact a c v h q
theorem Seqs.mut {H H1 : Hp} {x : Addr} {o : HO} (a : Seqs H H1) (hx : H x = none) : Seqs H (upd H1 x o) := fun c v h q => by
  rw [upd_ne (ne_of_none h hx)]
  exact a c v h q
section
variable {K : PySem.W.Frag} {H H' : Hp}
theorem Seqs.list {a : Addr} {xs : List V} (e : Seqs H H') (h : SqL K H a xs) : SqL K H' a xs := by
  rcases h with (h | ⟨o, h⟩) | h
  · exact .inl (.inl (e _ _ h rfl))
  · exact .inl (.inr ⟨o, e _ _ h rfl⟩)
  · exact .inr h
theorem Seqs.tup {a : Addr} {xs : List V} (e : Seqs H H') (h : SqT K H a xs) : SqT K H' a xs := by
  rcases h with (h | ⟨o, h⟩) | h
  · exact .inl (.inl (e _ _ h rfl))
  · exact .inl (.inr ⟨o, e _ _ h rfl⟩)
  · exact .inr h
mutual
theorem dp_seqs (e : Seqs H H') : ∀ {v : V} {d : PyData}, Dp K H v d → Dp K H' v d
  | _, _, .non => .non
  | _, _, .bl b => .bl b
  | _, _, .int i => .int i
  | _, _, .str x => .str x
  | _, _, .lst h hs => .lst (Seqs.list e h) (dpAll_seqs e hs)
  | _, _, .tup h hs => .tup (Seqs.tup e h) (dpAll_seqs e hs)
theorem dpAll_seqs (e : Seqs H H') : ∀ {vs : List V} {ds : List PyData}, DpAll K H vs ds → DpAll K H' vs ds
  | _, _, .nil => .nil
  | _, _, .cons h hs => .cons (dp_seqs e h) (dpAll_seqs e hs)
end
end
end My
/-! MyDp -/
set_option Elab.async false
set_option linter.all false
set_option maxRecDepth 100000
set_option maxHeartbeats 4000000
/-! Data in the heap, taken apart; equality of data. -/
namespace My
open PySem PySem.Spec PyProof.Rows L2
theorem map_get {α β : Type} {f : α → β} {l : List α} {i : Nat} {y : β} (h : (l.map f)[i]? = some y) : ∃ x, l[i]? = some x ∧ f x = y := by
  rw [List.getElem?_map] at h
  cases e : l[i]? with
  | none => rw [e] at h; simp at h
  | some q => rw [e] at h; exact ⟨q, rfl, by simpa using h⟩
theorem get_map {α β : Type} {f : α → β} {l : List α} {i : Nat} {x : α} (h : l[i]? = some x) : (l.map f)[i]? = some (f x) := by
  rw [List.getElem?_map, h]
  rfl
theorem le_sum {a : Nat} : ∀ {l : List Nat}, a ∈ l → a ≤ l.sum
  | b :: r, h => by
    rw [List.sum_cons]
    rcases List.mem_cons.mp h with e | h
    · omega
    · have := le_sum h
      omega
theorem get_lt {α : Type} {l : List α} {i : Nat} {x : α} (h : l[i]? = some x) : i < l.length := (List.getElem?_eq_some_iff.mp h).1
theorem get_some {α : Type} {l : List α} {i : Nat} (h : i < l.length) : ∃ x, l[i]? = some x := ⟨l[i], List.getElem?_eq_getElem h⟩
section
variable {K : PySem.W.Frag} {H : Hp} {v : V}
theorem dp_tup {ds : List PyData} (h : Dp K H v (.tuple ds)) : ∃ a xs, v = .ref a ∧ SqT K H a xs ∧ DpAll K H xs ds := by
  cases h with
  | tup a b => exact ⟨_, _, rfl, a, b⟩
theorem dp_lst {ds : List PyData} (h : Dp K H v (.list ds)) : ∃ a xs, v = .ref a ∧ SqL K H a xs ∧ DpAll K H xs ds := by
  cases h with
  | lst a b => exact ⟨_, _, rfl, a, b⟩
theorem dp_int {i : Int} (h : Dp K H v (.int i)) : v = .int i := by
  cases h
  rfl
theorem dp_str {z : Str} (h : Dp K H v (.str z)) : v = .str z := by
  cases h
  rfl
theorem dp_bl {b : Bool} (h : Dp K H v (.bool b)) : v = .bl b := by
  cases h
  rfl
theorem dp_non (h : Dp K H v .none) : v = .non := by
  cases h
  rfl
theorem dpAll_nil {xs : List V} (h : DpAll K H xs []) : xs = [] := by
  cases h
  rfl
theorem dpAll_cons {xs : List V} {d : PyData} {ds : List PyData} (h : DpAll K H xs (d :: ds)) : ∃ x r, xs = x :: r ∧ Dp K H x d ∧ DpAll K H r ds := by
  cases h with
  | cons a b => exact ⟨_, _, rfl, a, b⟩
theorem dpAll_mapI {α : Type} {f : α → Int} : ∀ {l : List α} {xs : List V}, DpAll K H xs (l.map fun x => PyData.int (f x)) → xs = l.map fun x => V.int (f x)
  | [], _, h => dpAll_nil h
  | a :: l, _, h => by
    obtain ⟨x, r, rfl, dx, d⟩ := dpAll_cons h
    rw [dp_int dx, dpAll_mapI d]
    rfl
theorem dpAll_mapS {α : Type} {f : α → Str} : ∀ {l : List α} {xs : List V}, DpAll K H xs (l.map fun x => PyData.str (f x)) → xs = l.map fun x => V.str (f x)
  | [], _, h => dpAll_nil h
  | a :: l, _, h => by
    obtain ⟨x, r, rfl, dx, d⟩ := dpAll_cons h
    rw [dp_str dx, dpAll_mapS d]
    rfl
end
/-! ### equality -/
theorem eqvAll_map {α : Type} [DecidableEq α] {f : α → PyData} (h : ∀ a b, PyData.eqv (f a) (f b) = decide (a = b)) : ∀ (l m : List α), PyData.eqvAll (l.map f) (m.map f) = decide (l = m)
  | [], [] => by simp [PyData.eqvAll]
  | [], _ :: _ => by simp [PyData.eqvAll]
  | _ :: _, [] => by simp [PyData.eqvAll]
  | a :: l, b :: m => by
    show (PyData.eqv (f a) (f b) && PyData.eqvAll (l.map f) (m.map f)) = _
    rw [h a b, eqvAll_map h l m, Bool.eq_iff_iff]
    simp
theorem eqv_pair (p q : Int × Int) : PyData.eqv (.tuple [.int p.1, .int p.2]) (.tuple [.int q.1, .int q.2]) = decide (p = q) := by
  show ((p.1 == q.1) && ((p.2 == q.2) && true)) = _
  obtain ⟨a, b⟩ := p
  obtain ⟨c, d⟩ := q
  rw [Bool.eq_iff_iff]
  simp
theorem lay_all {l : List PyData} (h : ∀ d ∈ l, d.canLay0 = true) : PyData.canLayAll0 l = true := by
  induction l with
  | nil => rfl
  | cons a r ih =>
    show (a.canLay0 && PyData.canLayAll0 r) = true
    rw [h a (List.mem_cons_self ..), ih fun d hd => h d (List.mem_cons_of_mem _ hd)]
    rfl
theorem depth_all {n : Nat} {l : List PyData} (h : ∀ d ∈ l, d.depth ≤ n) : PyData.depthAll l ≤ n := by
  induction l with
  | nil => exact Nat.zero_le _
  | cons a r ih =>
    show max a.depth (PyData.depthAll r) ≤ n
    exact Nat.max_le.mpr ⟨h a (List.mem_cons_self ..), ih fun d hd => h d (List.mem_cons_of_mem _ hd)⟩
/-- shaped, with a bound of the depth -/
def Shp (n : Nat) (d : PyData) : Prop := d.canLay0 = true ∧ d.depth ≤ n
theorem Shp.shaped {n : Nat} {d : PyData} (h : Shp n d) (hn : n ≤ 64 := by decide) : SeqAt.shaped d = true := by
  unfold SeqAt.shaped
  rw [h.1, decide_eq_true (Nat.le_trans h.2 hn)]
  rfl
theorem shp_int (i : Int) : Shp 0 (.int i) := ⟨rfl, Nat.le_refl _⟩
theorem shp_non : Shp 0 .none := ⟨rfl, Nat.le_refl _⟩
theorem shp_bool (b : Bool) : Shp 0 (.bool b) := ⟨rfl, Nat.le_refl _⟩
theorem Shp.mono {n m : Nat} {d : PyData} (h : Shp n d) (k : n ≤ m) : Shp m d := ⟨h.1, Nat.le_trans h.2 k⟩
theorem shp_tup {n : Nat} {l : List PyData} (h : ∀ d ∈ l, Shp n d) : Shp (n + 1) (.tuple l) := by
  refine ⟨lay_all fun d hd => (h d hd).1, ?_⟩
  show PyData.depthAll l + 1 ≤ n + 1
  exact Nat.succ_le_succ (depth_all fun d hd => (h d hd).2)
theorem shp_lst {n : Nat} {l : List PyData} (h : ∀ d ∈ l, Shp n d) : Shp (n + 1) (.list l) := by
  refine ⟨lay_all fun d hd => (h d hd).1, ?_⟩
  show PyData.depthAll l + 1 ≤ n + 1
  exact Nat.succ_le_succ (depth_all fun d hd => (h d hd).2)
end My
/-! MyLaw -/
set_option Elab.async false
set_option linter.all false
set_option maxRecDepth 100000
set_option maxHeartbeats 4000000
/-! Small things for readings: tests, slices, counts. -/
namespace My
open PySem PySem.Spec PyProof.Rows L2
theorem iteD0 {c A B : Prop} [Decidable c] (hc : ¬ c) (h : B) : if decide c = true then A else B := by
  rw [decide_eq_false hc]
  exact iteF h
theorem iteD1 {c A B : Prop} [Decidable c] (hc : c) (h : A) : if decide c = true then A else B := by
  rw [decide_eq_true hc]
  exact iteT h
theorem iteND1 {c A B : Prop} [Decidable c] (hc : c) (h : B) : if (!decide c) = true then A else B := by
  rw [decide_eq_true hc]
  exact iteF h
theorem iteND0 {c A B : Prop} [Decidable c] (hc : ¬ c) (h : A) : if (!decide c) = true then A else B := by
  rw [decide_eq_false hc]
  exact iteT h
theorem cutV_from (xs : List V) (i : Nat) : cutV xs (some (i : Int)) none = xs.drop i := by
  unfold cutV
  rw [HT.sIx_nat, HT.sIx_none]
  rcases Nat.le_total i xs.length with h | h
  · rw [Nat.min_eq_left h, List.take_of_length_le (by rw [List.length_drop]; exact Nat.le_refl _)]
  · rw [Nat.min_eq_right h, List.drop_of_length_le (Nat.le_refl _), List.drop_of_length_le h, List.take_nil]
theorem cutV_to (xs : List V) (i : Nat) : cutV xs none (some (i : Int)) = xs.take i := by
  unfold cutV
  rw [HT.sIx_nat, HT.sIx_none, List.drop_zero, Nat.sub_zero]
  rcases Nat.le_total i xs.length with h | h
  · rw [Nat.min_eq_left h]
  · rw [Nat.min_eq_right h, List.take_of_length_le (Nat.le_refl _), List.take_of_length_le h]
theorem cutV_mid (xs : List V) (i j : Nat) : cutV xs (some (i : Int)) (some (j : Int)) = (xs.drop i).take (j - i) := by
  unfold cutV
  rw [HT.sIx_nat, HT.sIx_nat]
  rcases Nat.le_total i xs.length with h | h
  · rw [Nat.min_eq_left h]
    rcases Nat.le_total j xs.length with g | g
    · rw [Nat.min_eq_left g]
    · rw [Nat.min_eq_right g, List.take_of_length_le (by rw [List.length_drop]; exact Nat.le_refl _), List.take_of_length_le (by rw [List.length_drop]; omega)]
  · rw [Nat.min_eq_right h, List.drop_of_length_le (Nat.le_refl _), List.drop_of_length_le h, List.take_nil, List.take_nil]
theorem cutS_from (l : List Nat) (i : Nat) : cutS (tx l) (some (i : Int)) none = tx (l.drop i) := by
  unfold cutS
  rw [HT.sIx_nat, HT.sIx_none, len_tx]
  show tx ((l.drop (min i l.length)).take (l.length - min i l.length)) = _
  rcases Nat.le_total i l.length with h | h
  · rw [Nat.min_eq_left h, List.take_of_length_le (by rw [List.length_drop]; exact Nat.le_refl _)]
  · rw [Nat.min_eq_right h, List.drop_of_length_le (Nat.le_refl _), List.drop_of_length_le h, List.take_nil]
theorem cutS_to (l : List Nat) (i : Nat) : cutS (tx l) none (some (i : Int)) = tx (l.take i) := by
  unfold cutS
  rw [HT.sIx_nat, HT.sIx_none, len_tx]
  show tx ((l.drop 0).take (min i l.length - 0)) = _
  rw [List.drop_zero, Nat.sub_zero]
  rcases Nat.le_total i l.length with h | h
  · rw [Nat.min_eq_left h]
  · rw [Nat.min_eq_right h, List.take_of_length_le (Nat.le_refl _), List.take_of_length_le h]
theorem cutS_mid (l : List Nat) (i j : Nat) : cutS (tx l) (some (i : Int)) (some (j : Int)) = tx ((l.drop i).take (j - i)) := by
  unfold cutS
  rw [HT.sIx_nat, HT.sIx_nat, len_tx]
  show tx ((l.drop (min i l.length)).take (min j l.length - min i l.length)) = _
  rcases Nat.le_total i l.length with h | h
  · rw [Nat.min_eq_left h]
    rcases Nat.le_total j l.length with g | g
    · rw [Nat.min_eq_left g]
    · rw [Nat.min_eq_right g, List.take_of_length_le (by rw [List.length_drop]; exact Nat.le_refl _), List.take_of_length_le (by rw [List.length_drop]; omega)]
  · rw [Nat.min_eq_right h, List.drop_of_length_le (Nat.le_refl _), List.drop_of_length_le h, List.take_nil, List.take_nil]
theorem tx_eq {a b : List Nat} : tx a = tx b ↔ a = b := ⟨tx_inj, fun e => by rw [e]⟩
theorem parts_len (x : Str) (cuts : List Nat) (n : Nat) : (Builtin.Str.partsBetween x cuts n).length = cuts.length + 1 := by
  unfold Builtin.Str.partsBetween
  simp
theorem count_eq (l : List Nat) (s : Nat) (hs : s < 256) : Txt.count (tx l) (tx [s]) = ((cutAt s l).length : Int) - 1 := by
  have h := congrArg List.length (split_eq (tx l) s hs)
  rw [List.length_map, sg_tx] at h
  rw [← h]
  unfold Txt.split Txt.count
  have k : ¬ Builtin.Str.strKind (tx l) < Builtin.Str.strKind (tx [s]) := TL.kind_ok (by simp [tx, hs])
  cases l with
  | nil =>
    have o : Builtin.Str.occurrences (tx []) (tx [s]) 0 (tx []).length ((tx []).length + 1) = [] := by
      have e := StrLaws.found_one (tx []) s
      have e2 : (Builtin.Str.occurrences (tx []) (tx [s]) 0 (tx []).length 1).isEmpty = true := by
        have : (!(Builtin.Str.occurrences (tx []) (tx [s]) 0 (tx []).length 1).isEmpty) = false := by
          rw [show (!(Builtin.Str.occurrences (tx []) (tx [s]) 0 (tx []).length 1).isEmpty) = _ from e]
          rfl
        simpa using this
      exact List.isEmpty_iff.mp e2
    have q : (decide ((tx []).length < (tx [s]).length) || decide (Builtin.Str.strKind (tx []) < Builtin.Str.strKind (tx [s]))) = true := by
      rw [len_tx, len_tx]
      rfl
    rw [if_pos q, o]
    rfl
  | cons a r =>
    rw [if_neg ?_]
    · split
      · rename_i e
        rw [List.isEmpty_iff.mp e]
        rfl
      · rw [parts_len]
        omega
    · rw [len_tx, len_tx, Bool.or_eq_true, decide_eq_true_iff, decide_eq_true_iff]
      intro q
      rcases q with q | q
      · simp at q
      · exact k q
theorem ixN_nat {n j : Nat} (h : j < n) : ixN n (j : Int) = some j := by
  unfold ixN
  rw [if_pos (by omega), if_pos (by omega)]
  simp
theorem mod_nat {v n : Int} (h : 0 < n) : ∃ c : Nat, v % n = (c : Int) ∧ (c : Int) < n :=
  ⟨(v % n).toNat, by rw [Int.toNat_of_nonneg (Int.emod_nonneg _ (by omega))], by rw [Int.toNat_of_nonneg (Int.emod_nonneg _ (by omega))]; exact Int.emod_lt_of_pos _ h⟩
theorem small_mod {x n : Int} (h : 0 < n) (hn : n < 2 ^ 64) : (x % n).natAbs < 2 ^ 64 := by
  have h1 := Int.emod_nonneg x (show n ≠ 0 by omega)
  have h2 := Int.emod_lt_of_pos x h
  omega
theorem flat_sing : ∀ p : List Nat, (p.map fun c => [c]).flatten = p
  | [] => rfl
  | a :: r => by rw [List.map_cons, List.flatten_cons, flat_sing r]; rfl
/-- the signs that a join makes -/
theorem sum_len (L : List (List Nat)) : ((L.map tx).map fun z => z.length).sum = L.flatten.length := by
  rw [List.length_flatten, List.map_map]
  congr 1
theorem sum_le {b : Nat} : ∀ {L : List (List Nat)}, (∀ p ∈ L, p.length ≤ b) → ((L.map tx).map fun z => z.length).sum ≤ L.length * b
  | [], _ => Nat.zero_le _
  | p :: r, h => by
    have ih := sum_le (b := b) (L := r) fun q hq => h q (List.mem_cons_of_mem _ hq)
    have h1 := h p (List.mem_cons_self ..)
    rw [List.map_cons, List.map_cons, List.sum_cons, len_tx, List.length_cons, Nat.succ_mul]
    omega
end My
/-! MyK -/
set_option Elab.async false
set_option linter.all false
set_option maxRecDepth 100000
set_option maxHeartbeats 4000000
/-! Rules with the written part named: their readings are the same within a comprehension. -/
namespace My
open PySem PySem.Spec PyProof.Rows L2
section
variable (K : PySem.W.Frag) {X : Cx}
theorem ix_listK (h : X.K = K := by rfl) : IxR X (rIxL K) := h ▸ ix_list
theorem ix_tupK (h : X.K = K := by rfl) : IxR X (rIxT K) := h ▸ ix_tup
theorem sl_listK (h : X.K = K := by rfl) : SlR X (rSlL K) := h ▸ sl_list
theorem sl_tupK (h : X.K = K := by rfl) : SlR X (rSlT K) := h ▸ sl_tup
def rLenSeq : List V → Hp → VK → Prop := fun xs H Q => ∃ p ys, xs = [.ref p] ∧ (SqL K H p ys ∨ SqT K H p ys) ∧ Q (.int (ys.length : Nat)) H
theorem call_len_seqK (h : X.K = K := by rfl) : CallR X (.builtin "len") (rLenSeq K) := h ▸ call_len_seq
def rTupOf : List V → Hp → VK → Prop := fun xs H Q => ∃ p ys, xs = [.ref p] ∧ ((SqL K H p ys ∧ ∀ l, H l = none → Q (.ref l) (upd H l (.tup ys))) ∨ (SqT K H p ys ∧ Q (.ref p) H))
theorem call_tuple_ofK (h : X.K = K := by rfl) : CallR X (.type "tuple") (rTupOf K) := h ▸ call_tuple_of
def rLstOf : List V → Hp → VK → Prop := fun xs H Q => ∃ p ys, xs = [.ref p] ∧ (SqL K H p ys ∨ SqT K H p ys) ∧ ∀ l, H l = none → Q (.ref l) (upd H l (.lst ys))
theorem call_list_ofK (h : X.K = K := by rfl) : CallR X (.type "list") (rLstOf K) := h ▸ call_list_of
theorem op_eqDK (hu : X.A.units + 64 < cLine) (h : X.K = K := by rfl) : OpR X (compareOp .Eq) (rEqD K) := h ▸ op_eqD hu
theorem op_neDK (hu : X.A.units + 64 < cLine) (h : X.K = K := by rfl) : OpR X (compareOp .NotEq) (rNeD K) := h ▸ op_neD hu
theorem op_catTK (h : X.K = K := by rfl) : OpR X (binaryOp .Add) (rCatT K) := h ▸ op_catT
theorem op_ltTK (hu : X.A.units < cLine) (h : X.K = K := by rfl) : OpR X (compareOp .Lt) (rLtT K) := h ▸ op_ltT hu
theorem op_in_seqK (h : X.K = K := by rfl) : OpR X (compareOp .In) (rIn K false) := h ▸ op_in_seq
theorem op_notIn_seqK (h : X.K = K := by rfl) : OpR X (compareOp .NotIn) (rIn K true) := h ▸ op_notIn_seq
theorem call_isiK (h : X.K = K := by rfl) : CallR X (.builtin "isinstance") (rIsi K) := h ▸ call_isi
theorem call_isiTK (h : X.K = K := by rfl) : CallR X (.builtin "isinstance") (rIsiT K) := h ▸ call_isiT
theorem cr_sumK (hc : X.calm = true) (h : X.K = K := by rfl) : CallR X (.builtin "sum") (rSum K) := h ▸ cr_sum hc
theorem cr_maxK (hc : X.calm = true) (h : X.K = K := by rfl) : CallR X (.builtin "max") (rMax K) := h ▸ cr_max hc
theorem cr_minK (hc : X.calm = true) (h : X.K = K := by rfl) : CallR X (.builtin "min") (rMin K) := h ▸ cr_min hc
def rJoin : V → List V → Hp → VK → Prop := fun x xs H Q => ∃ a p, ∃ ys : List Str, x = .str a ∧ xs = [.ref p] ∧ (SqL K H p (ys.map V.str) ∨ SqT K H p (ys.map V.str)) ∧ (ys.map (·.length)).sum + ys.length * a.length ≤ 16777216 ∧ Q (.str (Txt.join a ys)) H
theorem mt_joinK (h : X.K = K := by rfl) : MtR X "str.join" (rJoin K) := h ▸ mt_join
theorem pe_joinK {o e : Expr} {to te : TE} {apos pos : Pos} (ho : PE X o to) (he : PE X e te) (hs : starEach [e] X.env = [(false, eval e X.env)] := by rfl) (hbase : attributeBase o "join" X.env (eval o X.env) = eval o X.env := by rfl) (hline : (apos.endLine == pos.line) = true := by rfl) (h : X.K = K := by rfl) :
    PE X (.Call (.Attribute o "join" apos) [e] [] pos) (tM1 (rJoin K) to te) := pe_m1 F.slot_str_join F.type_str_join (mt_joinK K h) ho he hs hbase hline
theorem pe_fldK {e : Expr} {f : Str} {ta : TE} {pos : Pos} (he : PE X e ta) (hb : attributeBase e f X.env (eval e X.env) = eval e X.env) (h : X.K = K := by rfl) : PE X (.Attribute e f pos) (tFld K ta f) := h ▸ pe_fld he hb
theorem ps_fldK {o value : Expr} {f : Str} {ta tv : TE} {pos pos' : Pos} (ha : PE X o ta) (hv : PE X value tv) (hs : swapsWith value (some (.Attribute o f pos')) pos.line X.env = pure false) (h : X.K = K := by rfl) : PS X (.Assign [.Attribute o f pos'] value pos) (sFld K ta tv f) := h ▸ ps_fld ha hv hs
theorem pi_listK {tg l : Expr} {tl : TE} (hl : PE X l tl) (h : X.K = K := by rfl) : PI X tg l (iList K tl) := h ▸ pi_list hl
theorem pi_tupK {tg l : Expr} {tl : TE} (hl : PE X l tl) (h : X.K = K := by rfl) : PI X tg l (iTup K tl) := h ▸ pi_tup hl
theorem pi_enumK {e : Expr} {ta : TA} {p pos tpos : Pos} {elts : List Expr} {kk : Nat} (hg : Gl X "enumerate") (hm : X.mg "enumerate" = none) (ha : PA X [e] ta) (hs : starEach [e] X.env = [(false, eval e X.env)] := by rfl) (h : X.K = K := by rfl) :
    PI X (.Tuple elts kk tpos) (.Call (.Name "enumerate" p) [e] [] pos) (iEnum K ta) := h ▸ pi_enum hg hm ha hs
theorem pi_zipK {e e2 : Expr} {ta : TA} {p pos tpos : Pos} {elts : List Expr} {kk : Nat} (hg : Gl X "zip") (hm : X.mg "zip" = none) (ha : PA X [e, e2] ta)
    (hs : starEach [e, e2] X.env = (false, eval e X.env) :: starEach [e2] X.env := by rfl) (hpl : (backTo pos (starEach [e2] X.env)).any (·.1) = false := by rfl) (h : X.K = K := by rfl) :
    PI X (.Tuple elts kk tpos) (.Call (.Name "zip" p) [e, e2] [] pos) (iZip K ta) := h ▸ pi_zip hg hm ha hs hpl
theorem pi_reversedK {tg e : Expr} {ta : TA} {p pos : Pos} (hg : Gl X "reversed") (hm : X.mg "reversed" = none) (ha : PA X [e] ta) (hs : starEach [e] X.env = [(false, eval e X.env)] := by rfl) (h : X.K = K := by rfl) : PI X tg (.Call (.Name "reversed" p) [e] [] pos) (iRev K ta) := h ▸ pi_reversed hg hm ha hs
def tTru (ta : TE) : TT := fun σ H Q => ta σ H fun x H' => ∃ k, TruV K x H' k ∧ Q k H'
theorem pt_truthK {a : Expr} {ta : TE} (ha : PE X a ta) (he : ∀ whole, isTrue a X.env whole = (do let v ← whole; standAt a.pos; holding [v] (truthy v))) (h : X.K = K := by rfl) : PT X a (tTru K ta) := h ▸ pt_truth ha he
theorem pe_bmK {T : String} {name : Str} {id : String} {o e : Expr} {es : List Expr} {to : TE} {t : TA} {r : V → List V → Hp → VK → Prop} {apos cpos : Pos} (pa : PlainAttrs T) (slot : Slot T name id) (hty : typeOf (.builtin id) = pure (.type "method_descriptor")) (hm : MtR X id r) (ho : PE X o to) (ha : PA X (e :: es) t)
    (hbase : attributeBase o name X.env (eval o X.env) = eval o X.env := by rfl)
    (hfew : ((backTo cpos (starEach (e :: es) X.env)).all (fun x => !x.1) && (backToKw cpos (keywordEach [] X.env)).all (fun x => x.1.isSome)
      && decide ((e :: es).length + ([] : List Keyword).length + (if ([] : List Keyword).isEmpty then 0 else 1) < 30)) = true := by rfl)
    (hline : (apos.endLine == cpos.line) = true := by rfl) (hs : starEach (e :: es) X.env = (false, eval e X.env) :: starEach es X.env := by rfl) (hplain : (backTo cpos (starEach es X.env)).any (·.1) = false := by rfl) (h : X.K = K := by rfl) :
    PE X (.Call (.Attribute o name apos) (e :: es) [] cpos) (tBM K T r to t) := h ▸ pe_bm pa slot hty hm ho ha hbase hfew hline hs hplain
theorem pe_bm0K {T : String} {name : Str} {id : String} {o : Expr} {to : TE} {r : V → List V → Hp → VK → Prop} {apos cpos : Pos} (pa : PlainAttrs T) (slot : Slot T name id) (hty : typeOf (.builtin id) = pure (.type "method_descriptor")) (hm : MtR X id r) (ho : PE X o to)
    (hbase : attributeBase o name X.env (eval o X.env) = eval o X.env := by rfl) (hline : (apos.endLine == cpos.line) = true := by rfl) (h : X.K = K := by rfl) : PE X (.Call (.Attribute o name apos) [] [] cpos) (tBM0 K T r to) := h ▸ pe_bm0 pa slot hty hm ho hbase hline
theorem pg_tupK {es : List Expr} {k : Nat} {t : TGs} {n : Nat} {pos : Pos} (hc : X.calm = true) (hq : PGs X es t)
    (hn : (assignEach es X.env).length = n := by rfl) (hst : (assignEach es X.env).findIdx? (·.1) = none := by rfl) (h : X.K = K := by rfl) : PG X (.Tuple es k pos) (gTup K n t) := h ▸ pg_tup hc hq hn hst
end
end My
/-! MyEZ -/
set_option Elab.async false
set_option linter.all false
set_option maxRecDepth 100000
set_option maxHeartbeats 4000000
/-! for i, (x, y) in enumerate(zip(s, t)), s and t tuples: zip's first pair stays held by enumerate. -/
namespace My
open PySem PySem.Spec PyProof.Rows L2
open PySem (IsZip IsPair IsEnum IsEnumOut ZipApart)

section
variable {prog : Program} {w : World} {A : Around} {E : Value → Shared → Prop} {s : Shared}
/-- the zip's own cells but its first field -/
structure ZRest (h : Heap) (TI i1 i2 l1 l2 : Addr) (k : Nat) : Prop where
  pr : IsPair h TI (.ref i1) (.ref i2)
  a : h.IsTupleIter i1 l1 k
  b : h.IsTupleIter i2 l2 k
/-- where the zip stands: not yet asked, or its first pair Z is out -/
def ZSt (h : Heap) (z TI TO : Addr) : Option Addr → Prop
  | none => IsZip h z TI TO .none ∧ ∃ a b, IsPair h TO a b
  | some Z => ∃ f, PySem.IsZipHeld h z TI TO Z f
/-- the first pair, once it is out -/
def zOut (n : Addr) : Option Addr → Addr
  | none => n
  | some Z => Z

theorem zip_item {z TI TO i1 i2 l1 l2 : Addr} {k : Nat} {xs ys : Array Value} {x y : Value} {Z : Option Addr} {Q : Value → Shared → Prop} (D : ZipApart z TI TO i1 i2 l1 l2) (hz : ZSt s.heap z TI TO Z) (hZ : ∀ c, Z = some c → ∃ o, s.heap.get? c = some o)
    (R : ZRest s.heap TI i1 i2 l1 l2 k) (hl1 : s.heap.IsTuple l1 xs) (hl2 : s.heap.IsTuple l2 ys) (hx : xs[k]? = some x) (hy : ys[k]? = some y)
    (hQ : ∀ h', ZSt h' z TI TO (some (zOut s.heap.objs.size Z)) → ZRest h' TI i1 i2 l1 l2 (k + 1) → IsPair h' s.heap.objs.size x y → h'.objs.size = s.heap.objs.size + 1 → (∃ a b, IsPair h' TO a b) →
      (∀ c o, c ≠ z → c ≠ TO → c ≠ i1 → c ≠ i2 → s.heap.get? c = some o → h'.get? c = some o) → Q (.ref s.heap.objs.size) { s with heap := h' })
    (hTO : ∃ a b, IsPair s.heap TO a b) :
    wpAny (model prog w) A (Builtin.«zip.__next__» ⟨[.ref z], []⟩) (fun fin s' => ∃ v, fin = .done (.ret v) ∧ Q v s') E s := by
  obtain ⟨a0, b0, hTO⟩ := hTO
  cases Z with
  | none =>
    obtain ⟨hz, _⟩ := hz
    refine RZ.zipT_next_item D hz R.pr hTO R.a R.b hl1 hl2 hx hy fun h' z' TO' h1 h2 hp hsz hk => ?_
    exact hQ h' ⟨false, z'⟩ ⟨hk _ _ D.TIz D.TITO D.TIi1 D.TIi2 R.pr, h1, h2⟩ hp hsz ⟨_, _, TO'⟩ hk
  | some c =>
    obtain ⟨f, hz⟩ := hz
    obtain ⟨oT, hT⟩ := hZ c rfl
    have hTI := R.pr
    show wpAny _ _ (field (.ref z) 2 >>= _) _ _ _
    refine wpAny_bind (wpAny_field hz rfl (x := .bool false) rfl ?_)
    show wpAny _ _ (field (.ref z) 3 >>= _) _ _ _
    refine wpAny_bind (wpAny_field hz rfl (x := .ref TI) rfl ?_)
    refine wpAny_bind (wpAny_seqItems hTI rfl ?_)
    show wpAny _ _ (Builtin.SmallTypes.ownedTupleIsFree (.ref z) >>= _) _ _ _
    refine wpAny_bind (PySem.wpAny_tupleHeld_zip hz hT fun h₁ hz₁ hs₁ => ?_)
    simp only [Bool.false_eq_true, if_false]
    refine wpAny_bind ?_
    rw [← Array.forIn_toList]
    simp only [List.forIn_cons, List.forIn_nil]
    refine wpAny_bind (wpAny_bind (wpAny_holding ?_))
    show wpAny _ _ (Builtin.SmallTypes.nextOf (.ref i1) >>= _) _ _ _
    refine wpAny_bind (RZ.nextOf_tuple_item (s := { s with heap := h₁ }) (R.a.extBut hs₁.extBut D.i1z) (hl1.extBut hs₁.extBut D.l1z) hx fun h₂ h1₂ hs₂ => wpAny_pure ?_)
    refine wpAny_pure ?_
    refine wpAny_bind (wpAny_bind (wpAny_holding ?_))
    show wpAny _ _ (Builtin.SmallTypes.nextOf (.ref i2) >>= _) _ _ _
    refine wpAny_bind (RZ.nextOf_tuple_item (s := { s with heap := h₂ }) ((R.b.extBut hs₁.extBut D.i2z).extBut hs₂.extBut D.i12.symm) ((hl2.extBut hs₁.extBut D.l2z).extBut hs₂.extBut D.l2i1) hy fun h₃ h2₃ hs₃ => wpAny_pure ?_)
    refine wpAny_pure (wpAny_pure ?_)
    show wpAny _ _ (newTuple [x, y] >>= _) _ _ _
    refine wpAny_bind (wpAny_newTuple ?_)
    have hsz : h₃.objs.size = s.heap.objs.size := by rw [hs₃.1, hs₂.1, hs₁.1]
    have hz₃ : PySem.IsZipHeld h₃ z TI TO c true := hs₃.extBut _ _ D.i2z.symm (hs₂.extBut _ _ D.i1z.symm hz₁)
    have hk : ∀ b o, b ≠ z → b ≠ i1 → b ≠ i2 → s.heap.get? b = some o → h₃.get? b = some o := fun b o c1 c2 c3 e => hs₃.extBut _ _ c3 (hs₂.extBut _ _ c2 (hs₁.extBut _ _ c1 e))
    have h1₃ : h₃.IsTupleIter i1 l1 (k + 1) := h1₂.extBut hs₃.extBut D.i12
    refine wpAny_pure ⟨_, rfl, ?_⟩
    show Q (.ref h₃.objs.size) _
    have hp : IsPair (h₃.push { cls := .type "tuple", data := .seq #[x, y] }) h₃.objs.size x y := Heap.get?_push_size _ rfl
    have hz4 : (h₃.push { cls := .type "tuple", data := .seq #[x, y] }).objs.size = h₃.objs.size + 1 := Heap.size_push ..
    rw [hsz] at hp hz4 ⊢
    exact hQ _ ⟨true, Heap.get?_push_of_some _ hz₃⟩ ⟨Heap.get?_push_of_some _ (hk _ _ D.TIz D.TIi1 D.TIi2 hTI), h1₃.at fun o e => Heap.get?_push_of_some _ e, h2₃.at fun o e => Heap.get?_push_of_some _ e⟩ hp hz4
      ⟨_, _, Heap.get?_push_of_some _ (hk _ _ D.TOz D.TOi1 D.TOi2 hTO)⟩ fun b o c1 _ c2 c3 e => Heap.get?_push_of_some _ (hk b o c1 c2 c3 e)

theorem nextOf_zip_item {z TI TO i1 i2 l1 l2 : Addr} {k : Nat} {xs ys : Array Value} {x y : Value} {Z : Option Addr} {Q : Value → Shared → Prop} (D : ZipApart z TI TO i1 i2 l1 l2) (hz : ZSt s.heap z TI TO Z) (hZ : ∀ c, Z = some c → ∃ o, s.heap.get? c = some o)
    (R : ZRest s.heap TI i1 i2 l1 l2 k) (hl1 : s.heap.IsTuple l1 xs) (hl2 : s.heap.IsTuple l2 ys) (hx : xs[k]? = some x) (hy : ys[k]? = some y)
    (hQ : ∀ h', ZSt h' z TI TO (some (zOut s.heap.objs.size Z)) → ZRest h' TI i1 i2 l1 l2 (k + 1) → IsPair h' s.heap.objs.size x y → h'.objs.size = s.heap.objs.size + 1 → (∃ a b, IsPair h' TO a b) →
      (∀ c o, c ≠ z → c ≠ TO → c ≠ i1 → c ≠ i2 → s.heap.get? c = some o → h'.get? c = some o) → Q (.ref s.heap.objs.size) { s with heap := h' })
    (hTO : ∃ a b, IsPair s.heap TO a b) :
    wpAny (model prog w) A (Builtin.SmallTypes.nextOf (.ref z)) Q E s := by
  have hT : s.TypeIs (.ref z) "zip" := by
    cases Z with
    | none => exact ⟨_, hz.1, rfl⟩
    | some c => obtain ⟨f, hz⟩ := hz; exact ⟨_, hz, rfl⟩
  unfold Builtin.SmallTypes.nextOf
  exact wpAny_bind (wpAny_callSpecial?_slot (name := Str.ofString "__next__") hT F.slot_zip_next
    (wpAny_call_entry F.slot_zip_next hT F.entry_zip_next (zip_item D hz hZ R hl1 hl2 hx hy (fun h' a b c d e f => wpAny_pure (hQ h' a b c d e f)) hTO) (F.args_zip_next_1 _)))

theorem zip_end {z TI TO i1 i2 l1 l2 : Addr} {k : Nat} {xs ys : Array Value} {Z : Option Addr} {Q : Fin → Shared → Prop} (hh : A.handled = none) (D : ZipApart z TI TO i1 i2 l1 l2) (hz : ZSt s.heap z TI TO Z) (hZ : ∀ c, Z = some c → ∃ o, s.heap.get? c = some o)
    (R : ZRest s.heap TI i1 i2 l1 l2 k) (hl1 : s.heap.IsTuple l1 xs) (hl2 : s.heap.IsTuple l2 ys) (hend : xs[k]? = none ∨ ys[k]? = none) (hTO : ∃ a b, IsPair s.heap TO a b)
    (hE : ∀ h' e, (∀ c o, c ≠ z → c ≠ TO → c ≠ i1 → c ≠ i2 → s.heap.get? c = some o → h'.get? c = some o) → (∃ o, h'.get? e = some o ∧ o.cls = .type "StopIteration") → E (.ref e) { s with heap := h' }) :
    wpAny (model prog w) A (Builtin.«zip.__next__» ⟨[.ref z], []⟩) Q E s := by
  obtain ⟨a0, b0, hTO⟩ := hTO
  cases Z with
  | none => exact RZ.zipT_next_end hh D hz.1 R.pr hTO R.a R.b hl1 hl2 hend hE
  | some c =>
    obtain ⟨f, hz⟩ := hz
    obtain ⟨oT, hT⟩ := hZ c rfl
    have hTI := R.pr
    show wpAny _ _ (field (.ref z) 2 >>= _) _ _ _
    refine wpAny_bind (wpAny_field hz rfl (x := .bool false) rfl ?_)
    show wpAny _ _ (field (.ref z) 3 >>= _) _ _ _
    refine wpAny_bind (wpAny_field hz rfl (x := .ref TI) rfl ?_)
    refine wpAny_bind (wpAny_seqItems hTI rfl ?_)
    show wpAny _ _ (Builtin.SmallTypes.ownedTupleIsFree (.ref z) >>= _) _ _ _
    refine wpAny_bind (PySem.wpAny_tupleHeld_zip hz hT fun h₁ hz₁ hs₁ => ?_)
    simp only [Bool.false_eq_true, if_false]
    refine wpAny_bind ?_
    rw [← Array.forIn_toList]
    simp only [List.forIn_cons, List.forIn_nil]
    refine wpAny_bind (wpAny_bind (wpAny_holding ?_))
    show wpAny _ _ (Builtin.SmallTypes.nextOf (.ref i1) >>= _) _ _ _
    cases hx : xs[k]? with
    | none =>
      refine wpAny_bind (RZ.nextOf_tuple_end (s := { s with heap := h₁ }) hh (R.a.extBut hs₁.extBut D.i1z) (hl1.extBut hs₁.extBut D.l1z) hx fun h₂ e hs₂ he => ?_)
      exact hE h₂ e (fun c o c1 _ c2 _ x => hs₂ _ _ c2 (hs₁.extBut _ _ c1 x)) he
    | some x =>
      have hy : ys[k]? = none := by
        rcases hend with h | h
        · rw [hx] at h
          cases h
        · exact h
      refine wpAny_bind (RZ.nextOf_tuple_item (s := { s with heap := h₁ }) (R.a.extBut hs₁.extBut D.i1z) (hl1.extBut hs₁.extBut D.l1z) hx fun h₂ h1₂ hs₂ => wpAny_pure ?_)
      refine wpAny_pure ?_
      refine wpAny_bind (wpAny_bind (wpAny_holding ?_))
      show wpAny _ _ (Builtin.SmallTypes.nextOf (.ref i2) >>= _) _ _ _
      refine wpAny_bind (RZ.nextOf_tuple_end (s := { s with heap := h₂ }) hh ((R.b.extBut hs₁.extBut D.i2z).extBut hs₂.extBut D.i12.symm) ((hl2.extBut hs₁.extBut D.l2z).extBut hs₂.extBut D.l2i1) hy fun h₃ e hs₃ he => ?_)
      exact hE h₃ e (fun c o c1 _ c2 c3 x => hs₃ _ _ c3 (hs₂.extBut _ _ c2 (hs₁.extBut _ _ c1 x))) he
theorem nextOf_zip_end {z TI TO i1 i2 l1 l2 : Addr} {k : Nat} {xs ys : Array Value} {Z : Option Addr} {Q : Value → Shared → Prop} (hh : A.handled = none) (D : ZipApart z TI TO i1 i2 l1 l2) (hz : ZSt s.heap z TI TO Z) (hZ : ∀ c, Z = some c → ∃ o, s.heap.get? c = some o)
    (R : ZRest s.heap TI i1 i2 l1 l2 k) (hl1 : s.heap.IsTuple l1 xs) (hl2 : s.heap.IsTuple l2 ys) (hend : xs[k]? = none ∨ ys[k]? = none) (hTO : ∃ a b, IsPair s.heap TO a b)
    (hE : ∀ h' e, (∀ c o, c ≠ z → c ≠ TO → c ≠ i1 → c ≠ i2 → s.heap.get? c = some o → h'.get? c = some o) → (∃ o, h'.get? e = some o ∧ o.cls = .type "StopIteration") → E (.ref e) { s with heap := h' }) :
    wpAny (model prog w) A (Builtin.SmallTypes.nextOf (.ref z)) Q E s := by
  have hT : s.TypeIs (.ref z) "zip" := by
    cases Z with
    | none => exact ⟨_, hz.1, rfl⟩
    | some c => obtain ⟨f, hz⟩ := hz; exact ⟨_, hz, rfl⟩
  unfold Builtin.SmallTypes.nextOf
  exact wpAny_bind (wpAny_callSpecial?_slot (name := Str.ofString "__next__") hT F.slot_zip_next
    (wpAny_call_entry F.slot_zip_next hT F.entry_zip_next (zip_end (A := A.in1) hh D hz hZ R hl1 hl2 hend hTO hE) (F.args_zip_next_1 _)))

set_option maxHeartbeats 4000000 in
theorem meets_enumerate_newZ (z TI TO : Addr) :
    Meets (Builtin.«enumerate.__new__» ⟨[.type "enumerate", .ref z], []⟩) (fun _ R s => IsZip s.heap z TI TO .none ∧
      R (.ok (.ret (.ref s.heap.objs.size))) { s with heap := s.heap.push { cls := .type "enumerate", data := .fields #[.none, .bool false, .ref z, rawInt 0, .none, .none] } }) :=
  .of_wp fun prog w A R s h => by
    obtain ⟨hp, g, d, tk, os⟩ := s
    obtain ⟨h1, h⟩ := h
    have hsub := sub_enumerate
    have q1 : ∀ {A' : Around} {E : Value → Shared → Prop} {Q : Value → Shared → Prop}, Q (.ref z) ⟨hp, g, d, tk, os⟩ → wpAny (model prog w) A' (pyIter (.ref z)) Q E ⟨hp, g, d, tk, os⟩ := fun q => wpAny_pyIter_zip h1 q
    wp_walk
    refine wpAny_stack_any fun st => wpAny_pure ?_
    split
    · rename_i c _ _ _ _ _
      cases (c == Value.type "enumerate")
      · wp_walk using q1
        exact ⟨_, rfl, h⟩
      · wp_walk using q1
        exact ⟨_, rfl, h⟩
    · wp_walk using q1
      exact ⟨_, rfl, h⟩
theorem call_enumerate_zip {z TI TO : Addr} {Q : Value → Shared → Prop} (hz : IsZip s.heap z TI TO .none)
    (h : ∀ h', IsEnum h' s.heap.objs.size z 0 .none → h'.objs.size = s.heap.objs.size + 1 → (∀ b o, s.heap.get? b = some o → h'.get? b = some o) → Q (.ref s.heap.objs.size) { s with heap := h' }) :
    wpAny (model prog w) A (call (.type "enumerate") [.ref z]) Q E s := by
  refine callType_new F.called_enumerate (by decide) (F.typeCall_enumerate_1 _) (F.newCall_enumerate_1 _) (fun obj => F.args_object_init_2 obj _) F.entry_enumerate_new
    (meets_enumerate_newZ z TI TO) ⟨hz, ?_⟩
  have he : IsEnum (s.heap.push { cls := .type "enumerate", data := .fields #[.none, .bool false, .ref z, rawInt 0, .none, .none] }) s.heap.objs.size z 0 .none := Heap.get?_push_size _ rfl
  exact ⟨⟨_, he, rfl⟩, h _ he (Heap.size_push ..) fun b o x => Heap.get?_push_of_some _ x⟩
end

/-! ### the loop -/
def tForEZ (K : PySem.W.Frag) (ta : TA) (g : TG) (tb : TS) : TS := fun D σ H => ta σ H fun vs H1 => ∃ (a b : Addr) (xs ys : List V), vs = [.ref a, .ref b] ∧ SqT K H1 a xs ∧ SqT K H1 b ys ∧
  ∃ W : Nat → L2.St → Hp → Option Addr → Prop, W 0 σ H1 none ∧ (∀ i σ H Z, W i σ H Z → SqT K H a xs ∧ SqT K H b ys ∧ ∀ c, Z = some c → ∃ zs, H c = some (.tup zs)) ∧
    (∀ i σ H Z, W i σ H Z → i = min xs.length ys.length → D.nx σ H) ∧
    ∀ i σ H Z x y zt T, W i σ H Z → xs[i]? = some x → ys[i]? = some y → H zt = none → H T = none → zt ≠ T →
      g (.ref T) σ (upd (upd H zt (.tup [x, y])) T (.tup [.int (i : Nat), .ref zt])) fun σ2 H2 =>
        tb { D with nx := fun σ' H' => W (i + 1) σ' H' (some (zOut zt Z)), ct := fun σ' H' => W (i + 1) σ' H' (some (zOut zt Z)), bk := D.nx } σ2 H2

/-- the cells of the iterator -/
structure EZSt (h : Heap) (e z TI TO i1 i2 l1 l2 : Addr) (Z : Option Addr) (k : Nat) : Prop where
  en : ∃ old, IsEnum h e z ((k : Nat) : Int) old
  zs : ZSt h z TI TO Z
  rs : ZRest h TI i1 i2 l1 l2 k
  to : ∃ a b, IsPair h TO a b
section
variable {X : Cx} {e z TI TO i1 i2 a b : Addr} {Z : Option Addr} {k : Nat} {h h' : Heap}
theorem EZSt.keep (st : EZSt h e z TI TO i1 i2 a b Z k) (kp : ∀ c ∈ [e, z, TI, TO, i1, i2], ∀ o, h.get? c = some o → h'.get? c = some o) : EZSt h' e z TI TO i1 i2 a b Z k := by
  obtain ⟨⟨old, he⟩, hz, ⟨p, q, r⟩, ⟨x, y, t⟩⟩ := st
  refine ⟨⟨old, kp _ (by simp) _ he⟩, ?_, ⟨kp _ (by simp) _ p, q.at fun o w => kp _ (by simp) o w, r.at fun o w => kp _ (by simp) o w⟩, ⟨x, y, kp _ (by simp) _ t⟩⟩
  cases Z with
  | none => exact ⟨kp _ (by simp) _ hz.1, let ⟨a, b, u⟩ := hz.2; ⟨a, b, kp _ (by simp) _ u⟩⟩
  | some c => exact let ⟨f, u⟩ := hz; ⟨f, kp _ (by simp) _ u⟩
theorem EZSt.obj (st : EZSt h e z TI TO i1 i2 a b Z k) : ∀ c ∈ [e, z, TI, TO, i1, i2], ∃ o, h.get? c = some o ∧ ∀ v, o.data ≠ .cell v := by
  obtain ⟨⟨old, he⟩, hz, ⟨p, ⟨o1, q1, _, q2⟩, ⟨o2, r1, _, r2⟩⟩, ⟨x, y, t⟩⟩ := st
  intro c hc
  have hc' : c = e ∨ c = z ∨ c = TI ∨ c = TO ∨ c = i1 ∨ c = i2 := by simpa using hc
  rcases hc' with w | w | w | w | w | w
  · rw [w]; exact ⟨_, he, fun v q => nomatch q⟩
  · rw [w]
    cases Z with
    | none => exact ⟨_, hz.1, fun v q => nomatch q⟩
    | some c => obtain ⟨f, u⟩ := hz; exact ⟨_, u, fun v q => nomatch q⟩
  · rw [w]; exact ⟨_, p, fun v q => nomatch q⟩
  · rw [w]; exact ⟨_, t, fun v q => nomatch q⟩
  · rw [w]; exact ⟨o1, q1, fun v q => by rw [q2] at q; cases q⟩
  · rw [w]; exact ⟨o2, r1, fun v q => by rw [r2] at q; cases q⟩

/-- one turn's item, stored nowhere yet -/
theorem ez_item {pins : List (Addr × Obj)} {σ : L2.St} {H : Hp} {s : Shared} {elts : List Expr} {kk : Nat} {tpos : Pos} {xs ys : List V} {x y : V} (D : ZipApart z TI TO i1 i2 a b) (hez : e ≠ z) (heTO : e ≠ TO) (hei1 : e ≠ i1) (hei2 : e ≠ i2) (heTI : e ≠ TI)
    (I : L2.Inv X pins σ H s) (hf : ∀ c ∈ [e, z, TI, TO, i1, i2], FpOk X pins H c) (st : EZSt s.heap e z TI TO i1 i2 a b Z k) (hx : SqT X.K H a xs) (hy : SqT X.K H b ys) (hZ : ∀ c, Z = some c → ∃ zs, H c = some (.tup zs))
    (ex : xs[k]? = some x) (ey : ys[k]? = some y) {Q : Option Value → Shared → Prop} {E : Value → Shared → Prop}
    (hQ : ∀ zt T s1, H zt = none → H T = none → zt ≠ T → (∀ (Q2 : Unit → Shared → Prop) (E2 : Value → Shared → Prop), (∀ s2, L2.Inv X pins σ (upd (upd H zt (.tup [x, y])) T (.tup [.int (k : Nat), .ref zt])) s2 → EZSt s2.heap e z TI TO i1 i2 a b (some (zOut zt Z)) (k + 1) →
        (∀ c ∈ [e, z, TI, TO, i1, i2], (upd (upd H zt (.tup [x, y])) T (.tup [.int (k : Nat), .ref zt])) c = none) → Q2 () s2) → wpAny (model X.prog X.w) X.A (letOwnedTupleGo (.Tuple elts kk tpos) (.ref e) (.ref T)) Q2 E2 s1) → Q (some (.ref T)) s1) :
    wpAny (model X.prog X.w) X.A (pyNext (.ref e)) Q E s := by
  obtain ⟨⟨old, he⟩, hz, hr, hTO⟩ := id st
  obtain ⟨its, rv, p1, _⟩ := I.tuple hx
  obtain ⟨its2, rv2, p2, _⟩ := I.tuple hy
  obtain ⟨u, hu, ru⟩ := rv.get ex
  obtain ⟨u2, hu2, ru2⟩ := rv2.get ey
  have hZ' : ∀ c, Z = some c → ∃ o, s.heap.get? c = some o := fun c hc => by
    obtain ⟨zs, q⟩ := hZ c hc
    obtain ⟨o, ho, _⟩ := (show ObjOk X.prog X.w H s.heap c (.tup zs) from I.hok c _ q).2.choose_spec.2
    exact ⟨o, ho⟩
  have lt6 : ∀ c ∈ [e, z, TI, TO, i1, i2], c < s.heap.objs.size := fun c hc => by
    obtain ⟨o, ho, _⟩ := st.obj c hc
    exact Heap.lt_size ho
  refine pyNext_enum_item (R := fun v h1 tk => v = .ref s.heap.objs.size ∧ tk = s.toks ∧ ZSt h1 z TI TO (some (zOut s.heap.objs.size Z)) ∧ ZRest h1 TI i1 i2 a b (k + 1) ∧ IsPair h1 s.heap.objs.size u u2 ∧ h1.objs.size = s.heap.objs.size + 1 ∧ (∃ p q, IsPair h1 TO p q) ∧
      ∀ c o, c ≠ z → c ≠ TO → c ≠ i1 → c ≠ i2 → s.heap.get? c = some o → h1.get? c = some o) he
    (fun Q' E' hq => nextOf_zip_item (Z := Z) D hz hZ' hr (show s.heap.IsTuple a its.toArray from p1) (show s.heap.IsTuple b its2.toArray from p2) (by simpa using hu) (by simpa using hu2) (fun h1 q1 q2 q3 q4 q5 q6 => hq _ h1 s.toks ⟨rfl, rfl, q1, q2, q3, q4, q5, q6⟩ (q6 _ _ hez heTO hei1 hei2 he)) hTO) ?_
  rintro v h1 tk h' ⟨rfl, rfl, q1, q2, q3, q4, q5, q6⟩ ho hT hsz hk
  have hs1 : s.heap.objs.size < h1.objs.size := by omega
  refine hQ s.heap.objs.size h1.objs.size _ (I.hok.fresh (Nat.le_refl _)) (I.hok.fresh (Nat.le_of_lt hs1)) (Nat.ne_of_lt hs1) fun Q2 E2 hq => ?_
  refine wpAny_letOwnedTupleGo_enum (s := { s with heap := h', toks := s.toks + 1 }) ho fun h'' he' sb => ?_
  have new1 : ObjOk X.prog X.w (upd H s.heap.objs.size (.tup [x, y])) h1 s.heap.objs.size (.tup [x, y]) :=
    ⟨by show 2 ≤ sizeLine; decide, [u, u2], .cons ru (.cons ru2 .nil), ⟨_, q3, rfl, _, rfl⟩⟩
  have I1 : L2.Inv X pins σ (upd H s.heap.objs.size (.tup [x, y])) { s with heap := h1, toks := s.toks } :=
    I.turnedNew (ch := [e, z, TI, TO, i1, i2]) (fun c o hc q => q6 c o (fun w => hc (by simp [w])) (fun w => hc (by simp [w])) (fun w => hc (by simp [w])) (fun w => hc (by simp [w])) q) hf (Nat.le_refl _) new1
  have hf1 : ∀ c ∈ [e, z, TI, TO, i1, i2], FpOk X pins (upd H s.heap.objs.size (.tup [x, y])) c := fun c hc => by
    obtain ⟨f0, f⟩ := hf c hc
    exact ⟨by rw [upd_ne (Nat.ne_of_lt (lt6 c hc))]; exact f0, f⟩
  have up : ∀ c o, c ≠ e → h1.get? c = some o → h''.get? c = some o := fun c o hc q => (sb.2 c hc).trans (hk c o hc q)
  have new2 : ObjOk X.prog X.w (upd (upd H s.heap.objs.size (.tup [x, y])) h1.objs.size (.tup [.int (k : Nat), .ref s.heap.objs.size])) h'' h1.objs.size (.tup [.int (k : Nat), .ref s.heap.objs.size]) :=
    ⟨by show 2 ≤ sizeLine; decide, [.int k s.toks, .ref s.heap.objs.size], .cons ⟨_, rfl⟩ (.cons rfl .nil), ⟨_, (sb.2 _ (Nat.ne_of_gt (Nat.lt_trans (lt6 e (by simp)) hs1))).trans hT, rfl, _, rfl⟩⟩
  have I2 : L2.Inv X pins σ (upd (upd H s.heap.objs.size (.tup [x, y])) h1.objs.size (.tup [.int (k : Nat), .ref s.heap.objs.size])) { s with heap := h'', toks := s.toks + 1 } :=
    I1.turnedNew (ch := [e, z, TI, TO, i1, i2]) (fun c o hc q => up c o (fun w => hc (by simp [w])) q) hf1 (Nat.le_refl _) new2
  refine hq _ I2 ⟨⟨.ref s.heap.objs.size, ?_⟩, ?_, ?_, ?_⟩ fun c hc => ?_
  · have e1 : ((k + 1 : Nat) : Int) = (k : Int) + 1 := by omega
    rw [e1]
    exact he'
  · obtain ⟨f, w⟩ := q1
    exact ⟨f, up _ _ hez.symm w⟩
  · exact ⟨up _ _ heTI.symm q2.pr, q2.a.at fun o w => up _ o hei1.symm w, q2.b.at fun o w => up _ o hei2.symm w⟩
  · obtain ⟨p, q, w⟩ := q5
    exact ⟨p, q, up _ _ heTO.symm w⟩
  · have l := lt6 c hc
    rw [upd_ne (Nat.ne_of_lt (Nat.lt_trans l hs1)), upd_ne (Nat.ne_of_lt l)]
    exact (hf c hc).1
end
end My
/-! MyEZ2 -/
set_option Elab.async false
set_option linter.all false
set_option maxRecDepth 100000
set_option maxHeartbeats 4000000
namespace My
open PySem PySem.Spec PyProof.Rows L2
open PySem (IsZip IsPair IsEnum IsEnumOut ZipApart)
section
variable {X : Cx}
theorem ps_forEZ {elts : List Expr} {kk : Nat} {e1 e2 : Expr} {body : List Stmt} {ta : TA} {g : TG} {tb : TS} {tpos p1 p2 p3 p4 pos : Pos} (hp : PassesOwn (model X.prog X.w) X.A X.env X.xe) (hc : X.calm = true)
    (hg1 : Gl X "enumerate") (hm1 : X.mg "enumerate" = none) (hg2 : Gl X "zip") (hm2 : X.mg "zip" = none) (ha : PA X [e1, e2] ta) (hg : PG X (.Tuple elts kk tpos) g) (hb : PSs X body tb)
    (hs : starEach [Expr.Call (.Name "zip" p1) [e1, e2] [] p2] X.env = [(false, eval (.Call (.Name "zip" p1) [e1, e2] [] p2) X.env)] := by rfl)
    (hs2 : starEach [e1, e2] X.env = (false, eval e1 X.env) :: starEach [e2] X.env := by rfl) (hpl : (backTo p2 (starEach [e2] X.env)).any (·.1) = false := by rfl)
    (hf : ∀ x, foldedSetIterable (.Call (.Name "enumerate" p3) [.Call (.Name "zip" p1) [e1, e2] [] p2] [] p4) X.env x = pure x := by intro _; rfl) :
    PS X (.For (.Tuple elts kk tpos) (.Call (.Name "enumerate" p3) [.Call (.Name "zip" p1) [e1, e2] [] p2] [] p4) body [] pos) (tForEZ X.K ta g tb) := by
  refine ⟨fun pins s σ H D I h => ?_⟩
  refine wpAny_For ?_ hf
  refine Call_ (ld_blt I hg1 hm1 boot_enumerate (PyProof.Rows.callWith_type1 ?_ hs rfl))
  rw [hs]
  show wpAny _ _ (spliced [(false, eval (Expr.Call (.Name "zip" p1) [e1, e2] [] p2) X.env)]) _ _ s
  refine Calls.spliced_cons (Call_ (ld_blt I hg2 hm2 PyProof.Rows.boot_zip (PyProof.Rows.callWith_type1 (thn (ha.run p2 pins s σ H _ I h) fun us s1 ⟨vs, H1, I1, r1, q1⟩ => ?_) hs2 hpl)))
  obtain ⟨a, b, xs, ys, ex, hqx, hqy, W, w0, wK, wD, wS⟩ := q1
  subst ex
  obtain ⟨u1, u2, rfl, ru1, ru2⟩ := vals2 r1
  cases (show u1 = Value.ref a from ru1)
  cases (show u2 = Value.ref b from ru2)
  obtain ⟨its, rv, p1', _⟩ := I1.tuple hqx
  obtain ⟨its2, rv2, p2', _⟩ := I1.tuple hqy
  have la : a < s1.heap.objs.size := by obtain ⟨_, q, _⟩ := id p1'; exact Heap.lt_size q
  have lb : b < s1.heap.objs.size := by obtain ⟨_, q, _⟩ := id p2'; exact Heap.lt_size q
  refine RZ.call_zipT (show s1.heap.IsTuple a its.toArray from p1') (show s1.heap.IsTuple b its2.toArray from p2') fun h1 hz hTI hTO hi1 hi2 hsz hk => ?_
  refine Calls.spliced_nil ?_
  refine call_enumerate_zip (s := { s1 with heap := h1 }) hz fun h2 he hsz2 hk2 => ?_
  refine wpAny_pyIter_enum (s := { s1 with heap := h2 }) he ?_
  have I2 : L2.Inv X pins σ H1 { s1 with heap := h2 } := I1.kept (t' := s1.toks) fun c o q => hk2 c o (hk c o q)
  have hsz2' : h2.objs.size = s1.heap.objs.size + 6 := by
    have e1 : h2.objs.size = h1.objs.size + 1 := hsz2
    omega
  have een : h1.objs.size = s1.heap.objs.size + 5 := by omega
  have st0 : EZSt h2 h1.objs.size (s1.heap.objs.size + 4) (s1.heap.objs.size + 2) (s1.heap.objs.size + 3) s1.heap.objs.size (s1.heap.objs.size + 1) a b none 0 := by
    refine ⟨⟨.none, he⟩, ⟨hk2 _ _ hz, _, _, hk2 _ _ hTO⟩, ⟨hk2 _ _ hTI, hi1.at fun o q => hk2 _ o q, hi2.at fun o q => hk2 _ o q⟩, ⟨_, _, hk2 _ _ hTO⟩⟩
  rw [een] at st0 ⊢
  have D := PySem.W.ktu_apart s1.heap.objs.size a b la lb
  have f0 : ∀ c ∈ [s1.heap.objs.size + 5, s1.heap.objs.size + 4, s1.heap.objs.size + 2, s1.heap.objs.size + 3, s1.heap.objs.size, s1.heap.objs.size + 1], FpOk X pins H1 c := fun c hc => by
    have hle : s1.heap.objs.size ≤ c := by
      have hc' : c = s1.heap.objs.size + 5 ∨ c = s1.heap.objs.size + 4 ∨ c = s1.heap.objs.size + 2 ∨ c = s1.heap.objs.size + 3 ∨ c = s1.heap.objs.size ∨ c = s1.heap.objs.size + 1 := by simpa using hc
      rcases hc' with w | w | w | w | w | w
      · rw [w]; exact Nat.le_add_right _ _
      · rw [w]; exact Nat.le_add_right _ _
      · rw [w]; exact Nat.le_add_right _ _
      · rw [w]; exact Nat.le_add_right _ _
      · rw [w]; exact Nat.le_refl _
      · rw [w]; exact Nat.le_add_right _ _
    exact I1.fpOk hle (I1.hok.fresh hle)
  have n54 : s1.heap.objs.size + 5 ≠ s1.heap.objs.size + 4 := fun q => absurd (Nat.add_left_cancel q) (by decide)
  have n53 : s1.heap.objs.size + 5 ≠ s1.heap.objs.size + 3 := fun q => absurd (Nat.add_left_cancel q) (by decide)
  have n52 : s1.heap.objs.size + 5 ≠ s1.heap.objs.size + 2 := fun q => absurd (Nat.add_left_cancel q) (by decide)
  have n51 : s1.heap.objs.size + 5 ≠ s1.heap.objs.size + 1 := fun q => absurd (Nat.add_left_cancel q) (by decide)
  have n50 : s1.heap.objs.size + 5 ≠ s1.heap.objs.size := Nat.ne_of_gt (Nat.lt_add_of_pos_right (by decide))
  generalize s1.heap.objs.size + 5 = e at *
  generalize s1.heap.objs.size + 4 = z at *
  generalize s1.heap.objs.size + 3 = TO at *
  generalize s1.heap.objs.size + 2 = TI at *
  generalize s1.heap.objs.size + 1 = i2 at *
  generalize s1.heap.objs.size = i1 at *
  have stat : ∀ {H' : Hp}, (∀ c ∈ [e, z, TI, TO, i1, i2], H' c = none) → ∀ c ∈ [e, z, TI, TO, i1, i2], FpOk X pins H' c := fun hn c hc => ⟨hn c hc, (f0 c hc).2⟩
  refine codeAny_forLoop_any (fun n s' => ∃ i σ' H' Z, n = min xs.length ys.length - i ∧ i ≤ min xs.length ys.length ∧ L2.Inv X pins σ' H' s' ∧ EZSt s'.heap e z TI TO i1 i2 a b Z i ∧ (∀ c ∈ [e, z, TI, TO, i1, i2], H' c = none) ∧ W i σ' H' Z) ?_ (min xs.length ys.length)
    ⟨0, σ, H1, none, by simp, Nat.zero_le _, I2, st0, fun c hc => (f0 c hc).1, w0⟩
  rintro n s3 ⟨i, σ3, H3, Z, rfl, hi, I3, st3, fr3, w3⟩
  obtain ⟨kx, ky, kZ⟩ := wK i σ3 H3 Z w3
  by_cases hlt : i < min xs.length ys.length
  · have hx : i < xs.length := by omega
    have hy : i < ys.length := by omega
    refine wpAny_passesOwn hp (ez_item (elts := elts) (kk := kk) (tpos := tpos) D n54 n53 n50 n51 n52 I3 (stat fr3) st3 kx ky kZ (List.getElem?_eq_getElem hx) (List.getElem?_eq_getElem hy) fun zt T s4 hzt hT hne hgo => ?_)
    refine wpAny_passesOwn hp (hgo _ _ fun s5 I5 st5 fr5 => ?_)
    have I5' := I5.pinned (stat fr5) st5.obj
    refine wpAny_passesOwn hp (thn (hg.run _ s5 σ3 _ (.ref T) (.ref T) _ I5' rfl (wS i σ3 H3 Z _ _ zt T w3 (List.getElem?_eq_getElem hx) (List.getElem?_eq_getElem hy) hzt hT hne)) fun _ s6 ⟨σ6, H6, I6, q6⟩ => ?_)
    refine wpAny_passesOwn hp (thn (hb.run _ s6 σ6 H6 _ I6 q6) fun f s7 q7 => ?_)
    have again : ∀ {σ7 : L2.St} {H7 : Hp}, L2.Inv X (pins ++ pinsAt [e, z, TI, TO, i1, i2] s5.heap) σ7 H7 s7 → W (i + 1) σ7 H7 (some (zOut zt Z)) →
        ∃ m, m < min xs.length ys.length - i ∧ ∃ i' σ' H' Z', m = min xs.length ys.length - i' ∧ i' ≤ min xs.length ys.length ∧ L2.Inv X pins σ' H' s7 ∧ EZSt s7.heap e z TI TO i1 i2 a b Z' i' ∧ (∀ c ∈ [e, z, TI, TO, i1, i2], H' c = none) ∧ W i' σ' H' Z' := fun {σ7 H7} I7 n7 => by
      refine ⟨min xs.length ys.length - (i + 1), by omega, i + 1, σ7, H7, some (zOut zt Z), rfl, hlt, I7.unpinned, st5.keep fun c hc o q => (I7.pin (c, o) (List.mem_append_right _ (List.mem_append_right _ (mem_pinsAt hc q)))).1, fun c hc => ?_, n7⟩
      obtain ⟨o, q, d⟩ := st5.obj c hc
      exact (I7.pin (c, o) (List.mem_append_right _ (List.mem_append_right _ (mem_pinsAt hc q)))).2.1
    cases f with
    | next => obtain ⟨σ7, H7, I7, n7⟩ := q7; exact again I7 n7
    | cont => obtain ⟨σ7, H7, I7, n7⟩ := q7; exact again I7 n7
    | brk => obtain ⟨σ7, H7, I7, q7⟩ := q7; exact ⟨σ7, H7, I7.unpinned, q7⟩
    | ret v => obtain ⟨x7, σ7, H7, I7, r7, q7⟩ := q7; exact ⟨x7, σ7, H7, I7.unpinned, r7, q7⟩
  · have hi' : i = min xs.length ys.length := by omega
    obtain ⟨itsx, rvx, px, _⟩ := I3.tuple kx
    obtain ⟨itsy, rvy, py, _⟩ := I3.tuple ky
    have l1 := rvx.length
    have l2 := rvy.length
    have hend : itsx.toArray[i]? = none ∨ itsy.toArray[i]? = none := by
      rcases Nat.le_total xs.length ys.length with q | q
      · exact .inl (by simp; omega)
      · exact .inr (by simp; omega)
    have hZ' : ∀ c, Z = some c → ∃ o, s3.heap.get? c = some o := fun c hc => by
      obtain ⟨zs, q⟩ := kZ c hc
      obtain ⟨o, ho, _⟩ := (show ObjOk X.prog X.w H3 s3.heap c (.tup zs) from I3.hok c _ q).2.choose_spec.2
      exact ⟨o, ho⟩
    obtain ⟨⟨old, he3⟩, hz3, hr3, hTO3⟩ := id st3
    refine wpAny_passesOwn hp (pyNext_enum_end (R := fun h1 => ∀ c o, c ≠ z → c ≠ TO → c ≠ i1 → c ≠ i2 → s3.heap.get? c = some o → h1.get? c = some o) he3
      (fun Q' E' hq => nextOf_zip_end (Z := Z) (I3.ok.hd hc) D hz3 hZ' hr3 (show s3.heap.IsTuple a itsx.toArray from px) (show s3.heap.IsTuple b itsy.toArray from py) hend hTO3 fun h' x hk' hx' => hq h' x hk' hx') fun h1 hk' => ?_)
    have I4 : L2.Inv X pins σ3 H3 { s3 with heap := h1 } := I3.turnedL (t' := s3.toks) (ch := [e, z, TI, TO, i1, i2]) (fun c o hc q => hk' c o (fun w => hc (by simp [w])) (fun w => hc (by simp [w])) (fun w => hc (by simp [w])) (fun w => hc (by simp [w])) q) (stat fr3)
    exact wpAny_execs_nil ⟨σ3, H3, I4, wD i σ3 H3 Z w3 hi'⟩
end
end My
/-! MyHook -/
set_option Elab.async false
set_option linter.all false
set_option maxRecDepth 100000
set_option maxHeartbeats 4000000
/-! The head's facts: defs found by any path of one's own, and any Bool about the written part. -/
namespace My
open PySem PySem.Spec PyProof.Rows L2 He

/-- one def: where it stands, its row's name, qualified name, parameters, body, scope, its defaults, its keyword-only defaults -/
structure DefM where
  adr : PySem.W.Frag → Addr
  name : Str
  qual : Str
  st : Stmt
  dfl : List Dv := []
  kwd : List (Str × Dv) := []
def fnM (K : PySem.W.Frag) (a : Addr) : FnW := match K.lookup a with
  | some ⟨_, _, .func fd, _⟩ => some (fd.name, fd.qualname, fd.params, fd.body, fd.scope, fd.globals, fd.closure, fd.builtins)
  | _ => none
def fdAt (K : PySem.W.Frag) (a : Addr) : FuncData := match K.lookup a with
  | some ⟨_, _, .func fd, _⟩ => fd
  | _ => PySem.W.fnOf Str.empty Str.empty ⟨[], [], none, [], [], none, []⟩ [] ⟨.function, [], false, false, []⟩ .none .none .none .none none .none .none
def DefM.val (d : DefM) : FnW := some (d.name, d.qual, defArgs d.st, .stmts (defBody d.st), defScope d.st, mainGlobals, [], builtinsNs)
def DefM.dvs (K : PySem.W.Frag) (d : DefM) : List V := d.dfl.map (Dv.v K)
def DefM.kws (K : PySem.W.Frag) (d : DefM) : List (Str × V) := d.kwd.map fun q => (q.1, q.2.v K)
def DefM.ok (K : PySem.W.Frag) (d : DefM) : Bool := PySem.W.keepIn K (.ref (d.adr K)) && (match K.lookup (d.adr K) with
  | some ⟨_, _, .func fd, _⟩ => PySem.W.codeIn K fd.code d.qual && (dflB K fd.defaults (d.dvs K) && kwdB K fd.kwdefaults (d.kws K))
  | _ => false)
/-- a def of the text as it stands behind the top -/
abbrev FunM (K : PySem.W.Frag) (d : DefM) : Prop := FunD K d.name d.qual (defArgs d.st) (defBody d.st) (defScope d.st) (d.dvs K) (d.kws K) (d.adr K) (fdAt K (d.adr K))
theorem DefM.funM {K : PySem.W.Frag} {d : DefM} (e : fnM K (d.adr K) = d.val) (c : d.ok K = true) : FunM K d := by
  obtain ⟨kp, c2⟩ := ba c
  unfold fnM at e
  cases q : K.lookup (d.adr K) with
  | none =>
    rw [q] at c2
    cases c2
  | some o =>
    obtain ⟨oc, od, dt, osl⟩ := o
    rw [q] at c2 e
    cases dt with
    | func fd =>
      have ef : fdAt K (d.adr K) = fd := by
        unfold fdAt
        rw [q]
      obtain ⟨n1, n2, n3, n4, n5, n6, n7, n8, n9, n10, n11, n12, n13, n14, n15⟩ := fd
      have e2 : (some (n1, n2, n3, n4, n5, n6, n7, n15) : FnW) = some (d.name, d.qual, defArgs d.st, .stmts (defBody d.st), defScope d.st, mainGlobals, [], builtinsNs) := e
      simp only [Option.some.injEq, Prod.mk.injEq] at e2
      obtain ⟨h1, h2, h3, h4, h5, h6, h7, h8⟩ := e2
      subst h1 h2 h3 h4 h5 h6 h7 h8
      have c3 : (PySem.W.codeIn K n13 d.qual && (dflB K n8 (d.dvs K) && kwdB K n9 (d.kws K))) = true := c2
      obtain ⟨k1, k2⟩ := ba c3
      obtain ⟨k3, k4⟩ := ba k2
      exact ⟨⟨oc, od, n8, n9, n10, n11, n12, n13, n14, osl, ef, by rw [ef]; exact q, k1, dflB_ok k3, kwdB_ok k4⟩, kp⟩
    | _ => cases c2

/-- what is told: every Bool of ex holds, each def stands -/
def obsM (ex : List (PySem.W.Frag → Bool)) (fn : List DefM) (K : PySem.W.Frag) : AlD := ((ex.all fun f => f K) && fn.all fun d => d.ok K, fn.map fun d => fnM K (d.adr K))
def valM (fn : List DefM) : AlD := (true, fn.map DefM.val)
def SaysM (ex : List (PySem.W.Frag → Bool)) (fn : List DefM) (K : PySem.W.Frag) : Prop := obsM ex fn K = valM fn
def obsMG (n : Nat) (ex : List (PySem.W.Frag → Bool)) (fn : List DefM) (g : Addr → Option Obj) : AlD := obsM ex fn (frG g (asD g n))
def hookM (n : Nat) (ex : List (PySem.W.Frag → Bool)) (fn : List DefM) : PySem.W.Hook where
  α := AlD
  obs := fun s => obsMG n ex fn s.heap.get?
  val := fun _ => valM fn
  says := fun _ h => ∃ K : PySem.W.Frag, K.In h ∧ SaysM ex fn K
  of := fun _ _ e => ⟨_, frG_in, e⟩
  keeps := fun _ _ _ ⟨K, hK, c⟩ k => ⟨K, PySem.W.Frag.In.keeps hK k, c⟩
theorem obsMG_eq {n : Nat} {ex : List (PySem.W.Frag → Bool)} {fn : List DefM} {g : Addr → Option Obj} {s : Shared} (h : ∀ a, g a = s.heap.get? a) : obsMG n ex fn g = (hookM n ex fn).obs s := by
  have e : g = s.heap.get? := funext h
  rw [e] <;> rfl
section
variable {es : List (PySem.W.Frag → Bool)} {ds : List DefM} {K : PySem.W.Frag}
theorem SaysM.ex (c : SaysM es ds K) (i : Nat) {f : PySem.W.Frag → Bool} (h : es[i]? = some f := by rfl) : f K = true := by
  have c1 := (ba (show ((es.all fun f => f K) && ds.all fun d => d.ok K) = true from congrArg (fun z : AlD => z.1) c)).1
  exact List.all_eq_true.mp c1 f (List.mem_of_getElem? h)
theorem SaysM.fn (c : SaysM es ds K) (i : Nat) {d : DefM} (h : ds[i]? = some d := by rfl) : FunM K d := by
  have c2 := (ba (show ((es.all fun f => f K) && ds.all fun d => d.ok K) = true from congrArg (fun z : AlD => z.1) c)).2
  have e : ds.map (fun d => fnM K (d.adr K)) = ds.map DefM.val := congrArg (fun z : AlD => z.2) c
  have e2 : (ds.map fun d => fnM K (d.adr K))[i]? = (ds.map DefM.val)[i]? := by rw [e]
  rw [List.getElem?_map, List.getElem?_map, h] at e2
  exact DefM.funM (Option.some.inj e2) (List.all_eq_true.mp c2 d (List.mem_of_getElem? h))
end

/-- a global def with no defaults, as callers want it -/
structure GF (K : PySem.W.Frag) (d : DefM) (ps : List Str) : Prop where
  F : FunM K d
  b : Binds K (fdAt K (d.adr K)) ps []
/-- a property's getter -/
def propG (C f : Str) (K : PySem.W.Frag) : Addr := match PySem.W.findIn K (.ref (ga K C)) f with
  | some (some (.ref p)) => (match PySem.W.recIn K p "property" with
    | some (.ref g :: _) => g
    | _ => 0)
  | _ => 0
def propA (C f : Str) (K : PySem.W.Frag) : Addr := match PySem.W.findIn K (.ref (ga K C)) f with
  | some (some (.ref p)) => p
  | _ => 0
def propB (C f : Str) (K : PySem.W.Frag) : Bool := match PySem.W.findIn K (.ref (ga K C)) f with
  | some (some (.ref p)) => eqO (PySem.W.specialIn K (.ref p) "__get__") (some (some (.builtin "property.__get__"))) && (decide (PySem.W.takesIn K (.ref p) = some true) && (match PySem.W.recIn K p "property" with
    | some (.ref _ :: _) => true
    | _ => false))
  | _ => false
theorem propB_ok {K : PySem.W.Frag} {C f : Str} (h : propB C f K = true) : PropOf K (ga K C) f (propA C f K) (propG C f K) := by
  unfold propB at h
  unfold propA propG
  split at h
  · rename_i p e
    obtain ⟨h1, h2⟩ := ba h
    obtain ⟨h3, h4⟩ := ba h2
    split at h4
    · rename_i g rest eg
      exact ⟨e, eqO_ok h1, of_decide_eq_true h3, ⟨rest, eg⟩⟩
    · cases h4
  · cases h
theorem fnIn_of {K : PySem.W.Frag} {d : DefM} (F : FunM K d) : PySem.W.fnIn K (d.adr K) = true := by
  obtain ⟨oc, od, dV, kV, doc, pm, an, cdv, ct, osl, _, lk, _⟩ := F.ex
  unfold PySem.W.fnIn
  rw [lk]
theorem intG {K : PySem.W.Frag} {mg : Str → Option Value} (g : ∀ x v, PySem.W.nsIn K mainGlobals x = some v → mg x = v) {x : Str} {i : Int} (c : (Fa.int x i).ok K = true) : ∃ t, mg x = some (.int i t) := by
  have c2 : (match PySem.W.nsIn K mainGlobals x with
    | some (some (.int j _)) => decide (j = i)
    | _ => false) = true := c
  split at c2
  · rename_i j t e
    have ej : j = i := of_decide_eq_true c2
    rw [ej] at e
    exact ⟨t, g _ _ e⟩
  · cases c2
theorem strG {K : PySem.W.Frag} {mg : Str → Option Value} (g : ∀ x v, PySem.W.nsIn K mainGlobals x = some v → mg x = v) {x z : Str} (c : (Fa.str x z).ok K = true) : ∃ t, mg x = some (.str z t) := by
  have c2 : (match PySem.W.nsIn K mainGlobals x with
    | some (some (.str y _)) => decide (y = z)
    | _ => false) = true := c
  split at c2
  · rename_i y t e
    have ej : y = z := of_decide_eq_true c2
    rw [ej] at e
    exact ⟨t, g _ _ e⟩
  · cases c2
/-- an own class's instances: their type -/
def tyB (C : Str) (K : PySem.W.Frag) : Bool := eqO (PySem.W.findIn K (.ref (ga K C)) "__class__") (some (some (.builtin "object.__class__"))) && (eqO (PySem.W.specialIn K (.builtin "object.__class__") "__get__") (some (some (.builtin "getset_descriptor.__get__"))) &&
  (decide (PySem.W.takesIn K (.builtin "object.__class__") = some true) && decide (PySem.W.mroIn K (ga K C) (.type "object") = some true)))
structure TyC (K : PySem.W.Frag) (C : Addr) : Prop where
  a : PySem.W.findIn K (.ref C) "__class__" = some (some (.builtin "object.__class__"))
  n : PySem.W.specialIn K (.builtin "object.__class__") "__get__" = some (some (.builtin "getset_descriptor.__get__"))
  t : PySem.W.takesIn K (.builtin "object.__class__") = some true
  m : PySem.W.mroIn K C (.type "object") = some true
theorem tyB_ok {K : PySem.W.Frag} {C : Str} (h : tyB C K = true) : TyC K (ga K C) := by
  obtain ⟨h1, h⟩ := ba h
  obtain ⟨h2, h⟩ := ba h
  obtain ⟨h3, h4⟩ := ba h
  exact ⟨eqO_ok h1, eqO_ok h2, of_decide_eq_true h3, of_decide_eq_true h4⟩
theorem TyC.of {K : PySem.W.Frag} {H : Hp} {C a dx : Addr} {fs : List (Str × V)} (t : TyC K C) (c : Cls K C) (e : H a = some (.ins C dx fs)) : TyX K H (.ref a) (.ref C) := .base (.ins e c t.a t.n t.t t.m)
theorem kit_self {K : PySem.W.Frag} {C : Addr} : PySem.W.kitOne K (.ref C) (.ref C) = some true := by
  unfold PySem.W.kitOne
  rw [if_pos (by exact beq_self_eq_true _)]
/-- values of a built-in type are none of the class -/
def kitN (C : Str) (n : String) (K : PySem.W.Frag) : Bool := decide (PySem.W.kitOne K (.type n) (.ref (ga K C)) = some false) && PySem.W.notFirst K (ga K C) (.type n)
theorem kitN_ok {K : PySem.W.Frag} {C : Str} {n : String} (h : kitN C n K = true) : PySem.W.kitOne K (.type n) (.ref (ga K C)) = some false ∧ PySem.W.notFirst K (ga K C) (.type n) = true := by
  obtain ⟨h1, h2⟩ := ba h
  exact ⟨of_decide_eq_true h1, h2⟩
theorem first_self {K : PySem.W.Frag} {C : Addr} : PySem.W.notFirst K C (.ref C) = true := by
  unfold PySem.W.notFirst
  rw [show ((Value.ref C) == .ref C) = true from beq_self_eq_true _]
  rfl
end My
namespace L2
open PySem PySem.Spec PyProof.Rows
/-- a def that lets nothing out (within, PassesOwn.never) -/
theorem FunD.ok0 {P : Program} {w : World} {K : PySem.W.Frag} {mg : Str → Option Value} {base : Heap} {x qual : Str} {params : Arguments} {body : List Stmt} {scope : Scope} {dvs : List V} {kws : List (Str × V)} {f : Addr} {fd : FuncData} {N ps : List Str} {k : Nat} {sp : Sp}
    (F : FunD K x qual params body scope dvs kws f fd) (S : FnScope N ps scope) (len : ∀ vs H Q E, sp vs H Q E → vs.length = ps.length)
    (hbody : ∀ (cdv : Value) (A : Around) (outer : List Env) (s : Shared) (H : Hp) (vs : List V) (Q : VK) (E : XK), Room k (A.deeper (envOfC qual scope s.heap.objs.size f cdv)) → sp vs H Q E →
      ∃ t, PSs (cxOf CX0 P w K mg base N qual scope f cdv A outer s H E).nox body t ∧ t { nx := fun _ H' => Q .non H', rt := Q } (L2.start N vs) H) : FnOk P w K mg base CX0 (k + 1) f fd ps sp :=
  F.ok S len fun cdv A outer s H vs Q E hr h => by
    obtain ⟨t, h1, h2⟩ := hbody cdv A outer s H vs Q E hr h
    exact ⟨t, h1.nox, h2⟩
end L2
/-! K79A -/
set_option Elab.async false
set_option linter.all false
set_option maxRecDepth 100000
set_option maxHeartbeats 0
namespace K79
open PySem PySem.Spec PyProof.Rows L2 My He
def topS (i : Nat) : Stmt := PySem.Challenge.pw_mapstack_k79_fingerprints.main.body.getD i (.Pass ⟨0, 0, 0, 0⟩)
abbrev s_need_text : Stmt := topS 5
abbrev s_lines_of : Stmt := topS 6
abbrev s_checksum : Stmt := topS 9
abbrev s_Fingerprint_init : Stmt := inClass (topS 10) 0
abbrev s_Fingerprint_lengths : Stmt := inClass (topS 10) 1
abbrev s_Fingerprint_checksums : Stmt := inClass (topS 10) 2
abbrev s_Fingerprint_first_stale : Stmt := inClass (topS 10) 3
abbrev s_Fingerprint_len : Stmt := inClass (topS 10) 4
abbrev s_Fingerprint_getitem : Stmt := inClass (topS 10) 5
abbrev s_Fingerprint_eq : Stmt := inClass (topS 10) 7
abbrev s_law_stream : Stmt := topS 12
abbrev s_law_pick : Stmt := topS 13
abbrev s_law_text : Stmt := topS 14
abbrev s_law_number : Stmt := topS 15
abbrev s_law_rows : Stmt := topS 16
abbrev s_law_changed : Stmt := topS 17
abbrev s_law_first : Stmt := topS 18
abbrev s_law_right : Stmt := topS 19
abbrev s_law : Stmt := topS 20
theorem sc_need_text : FnScope ["text"] ["text"] (defScope s_need_text) := ⟨rfl, rfl, rfl, by decide +kernel, rfl, by decide +kernel, by decide +kernel⟩
theorem sc_lines_of : FnScope ["text"] ["text"] (defScope s_lines_of) := ⟨rfl, rfl, rfl, by decide +kernel, rfl, by decide +kernel, by decide +kernel⟩
theorem sc_checksum : FnScope ["signs", "index", "sign"] ["signs"] (defScope s_checksum) := ⟨rfl, rfl, rfl, by decide +kernel, rfl, by decide +kernel, by decide +kernel⟩
theorem sc_Fingerprint_init : FnScope ["self", "text", "signs"] ["self", "text"] (defScope s_Fingerprint_init) := ⟨rfl, rfl, rfl, by decide +kernel, rfl, by decide +kernel, by decide +kernel⟩
theorem sc_Fingerprint_lengths : FnScope ["self", "size", "number"] ["self"] (defScope s_Fingerprint_lengths) := ⟨rfl, rfl, rfl, by decide +kernel, rfl, by decide +kernel, by decide +kernel⟩
theorem sc_Fingerprint_checksums : FnScope ["self", "size", "number"] ["self"] (defScope s_Fingerprint_checksums) := ⟨rfl, rfl, rfl, by decide +kernel, rfl, by decide +kernel, by decide +kernel⟩
theorem sc_Fingerprint_first_stale : FnScope ["self", "text", "numbers", "line", "mine", "other", "least"] ["self", "text"] (defScope s_Fingerprint_first_stale) := ⟨rfl, rfl, rfl, by decide +kernel, rfl, by decide +kernel, by decide +kernel⟩
theorem sc_Fingerprint_len : FnScope ["self"] ["self"] (defScope s_Fingerprint_len) := ⟨rfl, rfl, rfl, by decide +kernel, rfl, by decide +kernel, by decide +kernel⟩
theorem sc_Fingerprint_getitem : FnScope ["self", "at"] ["self", "at"] (defScope s_Fingerprint_getitem) := ⟨rfl, rfl, rfl, by decide +kernel, rfl, by decide +kernel, by decide +kernel⟩
theorem sc_Fingerprint_eq : FnScope ["self", "other"] ["self", "other"] (defScope s_Fingerprint_eq) := ⟨rfl, rfl, rfl, by decide +kernel, rfl, by decide +kernel, by decide +kernel⟩
theorem sc_law_stream : FnScope ["script", "k", "cell", "mixed", "step", "more"] ["script", "k"] (defScope s_law_stream) := ⟨rfl, rfl, rfl, by decide +kernel, rfl, by decide +kernel, by decide +kernel⟩
theorem sc_law_pick : FnScope ["stream", "amount", "place", "choice"] ["stream", "amount"] (defScope s_law_pick) := ⟨rfl, rfl, rfl, by decide +kernel, rfl, by decide +kernel, by decide +kernel⟩
theorem sc_law_text : FnScope ["stream", "found", "turn", "many", "at"] ["stream"] (defScope s_law_text) := ⟨rfl, rfl, rfl, by decide +kernel, rfl, by decide +kernel, by decide +kernel⟩
theorem sc_law_number : FnScope ["signs", "found", "at", "sign"] ["signs"] (defScope s_law_number) := ⟨rfl, rfl, rfl, by decide +kernel, rfl, by decide +kernel, by decide +kernel⟩
theorem sc_law_rows : FnScope ["signs", "row"] ["signs"] (defScope s_law_rows) := ⟨rfl, rfl, rfl, by decide +kernel, rfl, by decide +kernel, by decide +kernel⟩
theorem sc_law_changed : FnScope ["stream", "signs", "parts", "way", "at", "row", "spot", "far", "front", "rest", "some"] ["stream", "signs"] (defScope s_law_changed) := ⟨rfl, rfl, rfl, by decide +kernel, rfl, by decide +kernel, by decide +kernel⟩
theorem sc_law_first : FnScope ["one", "other", "rows", "far", "at"] ["one", "other"] (defScope s_law_first) := ⟨rfl, rfl, rfl, by decide +kernel, rfl, by decide +kernel, by decide +kernel⟩
theorem sc_law_right : FnScope ["stream", "one", "other", "prints", "rows", "due", "at", "row"] ["stream"] (defScope s_law_right) := ⟨rfl, rfl, rfl, by decide +kernel, rfl, by decide +kernel, by decide +kernel⟩
theorem sc_law : FnScope ["script", "k", "stream", "long"] ["script"] (defScope s_law) := ⟨rfl, rfl, rfl, by decide +kernel, rfl, by decide +kernel, by decide +kernel⟩
def d_need_text : DefM := ⟨fun K => ga K "need_text", "need_text", "need_text", s_need_text, [], []⟩
def d_lines_of : DefM := ⟨fun K => ga K "lines_of", "lines_of", "lines_of", s_lines_of, [], []⟩
def d_checksum : DefM := ⟨fun K => ga K "checksum", "checksum", "checksum", s_checksum, [], []⟩
def d_Fingerprint_init : DefM := ⟨fun K => ma K (ga K "Fingerprint") "__init__", "__init__", "Fingerprint.__init__", s_Fingerprint_init, [], []⟩
def d_Fingerprint_lengths : DefM := ⟨propG "Fingerprint" "lengths", "lengths", "Fingerprint.lengths", s_Fingerprint_lengths, [], []⟩
def d_Fingerprint_checksums : DefM := ⟨propG "Fingerprint" "checksums", "checksums", "Fingerprint.checksums", s_Fingerprint_checksums, [], []⟩
def d_Fingerprint_first_stale : DefM := ⟨fun K => ma K (ga K "Fingerprint") "first_stale", "first_stale", "Fingerprint.first_stale", s_Fingerprint_first_stale, [], []⟩
def d_Fingerprint_len : DefM := ⟨fun K => ma K (ga K "Fingerprint") "__len__", "__len__", "Fingerprint.__len__", s_Fingerprint_len, [], []⟩
def d_Fingerprint_getitem : DefM := ⟨fun K => ma K (ga K "Fingerprint") "__getitem__", "__getitem__", "Fingerprint.__getitem__", s_Fingerprint_getitem, [], []⟩
def d_Fingerprint_eq : DefM := ⟨fun K => ma K (ga K "Fingerprint") "__eq__", "__eq__", "Fingerprint.__eq__", s_Fingerprint_eq, [], []⟩
def d_law_stream : DefM := ⟨fun K => ga K "_law_stream", "_law_stream", "_law_stream", s_law_stream, [], []⟩
def d_law_pick : DefM := ⟨fun K => ga K "_law_pick", "_law_pick", "_law_pick", s_law_pick, [], []⟩
def d_law_text : DefM := ⟨fun K => ga K "_law_text", "_law_text", "_law_text", s_law_text, [], []⟩
def d_law_number : DefM := ⟨fun K => ga K "_law_number", "_law_number", "_law_number", s_law_number, [], []⟩
def d_law_rows : DefM := ⟨fun K => ga K "_law_rows", "_law_rows", "_law_rows", s_law_rows, [], []⟩
def d_law_changed : DefM := ⟨fun K => ga K "_law_changed", "_law_changed", "_law_changed", s_law_changed, [], []⟩
def d_law_first : DefM := ⟨fun K => ga K "_law_first", "_law_first", "_law_first", s_law_first, [], []⟩
def d_law_right : DefM := ⟨fun K => ga K "_law_right", "_law_right", "_law_right", s_law_right, [], []⟩
def d_law : DefM := ⟨fun K => ga K "law", "law", "law", s_law, [], []⟩
def fns : List DefM := [d_need_text, d_lines_of, d_checksum, d_Fingerprint_init, d_Fingerprint_lengths, d_Fingerprint_checksums, d_Fingerprint_first_stale, d_Fingerprint_len, d_Fingerprint_getitem, d_Fingerprint_eq, d_law_stream, d_law_pick, d_law_text, d_law_number, d_law_rows, d_law_changed, d_law_first, d_law_right, d_law]
def exs : List (PySem.W.Frag → Bool) := [(Fa.glo "need_text").ok, (Fa.glo "lines_of").ok, (Fa.glo "checksum").ok, (Fa.meth "Fingerprint" "__init__").ok, propB "Fingerprint" "lengths", propB "Fingerprint" "checksums", (Fa.meth "Fingerprint" "first_stale").ok, (Fa.meth "Fingerprint" "__len__").ok, (Fa.meth "Fingerprint" "__getitem__").ok, (Fa.meth "Fingerprint" "__eq__").ok, (Fa.glo "_law_stream").ok, (Fa.glo "_law_pick").ok, (Fa.glo "_law_text").ok, (Fa.glo "_law_number").ok, (Fa.glo "_law_rows").ok, (Fa.glo "_law_changed").ok, (Fa.glo "_law_first").ok, (Fa.glo "_law_right").ok, (Fa.glo "law").ok, (Fa.glo "Fingerprint").ok, (Fa.cls "Fingerprint").ok, (Fa.mkr "Fingerprint").ok, (Fa.noat "Fingerprint" "own_numbers").ok, tyB "Fingerprint", kitN "Fingerprint" "list", kitN "Fingerprint" "str", (Fa.free "len").ok, (Fa.free "tuple").ok, (Fa.free "isinstance").ok, (Fa.free "str").ok, (Fa.free "int").ok, (Fa.free "bool").ok, (Fa.free "sum").ok, (Fa.free "ord").ok, (Fa.free "enumerate").ok, (Fa.free "zip").ok, (Fa.free "range").ok, (Fa.free "min").ok, (Fa.free "max").ok, (Fa.int "MODULUS" 99999989).ok]
structure Txt (K : PySem.W.Frag) (mg : Str → Option Value) : Prop where
  c : SaysM exs fns K
  g : ∀ x v, PySem.W.nsIn K mainGlobals x = some v → mg x = v
theorem Txt.f_need_text {K : PySem.W.Frag} {mg : Str → Option Value} (T : Txt K mg) : GF K d_need_text ["text"] := ⟨T.c.fn 0, (T.c.fn 0 (d := d_need_text)).bindsN fun _ _ _ _ _ _ us hl => match us, hl with | [_], _ => rfl⟩
theorem Txt.f_lines_of {K : PySem.W.Frag} {mg : Str → Option Value} (T : Txt K mg) : GF K d_lines_of ["text"] := ⟨T.c.fn 1, (T.c.fn 1 (d := d_lines_of)).bindsN fun _ _ _ _ _ _ us hl => match us, hl with | [_], _ => rfl⟩
theorem Txt.f_checksum {K : PySem.W.Frag} {mg : Str → Option Value} (T : Txt K mg) : GF K d_checksum ["signs"] := ⟨T.c.fn 2, (T.c.fn 2 (d := d_checksum)).bindsN fun _ _ _ _ _ _ us hl => match us, hl with | [_], _ => rfl⟩
theorem Txt.f_Fingerprint_init {K : PySem.W.Frag} {mg : Str → Option Value} (T : Txt K mg) : GF K d_Fingerprint_init ["self", "text"] := ⟨T.c.fn 3, (T.c.fn 3 (d := d_Fingerprint_init)).bindsN fun _ _ _ _ _ _ us hl => match us, hl with | [_, _], _ => rfl⟩
theorem Txt.f_Fingerprint_lengths {K : PySem.W.Frag} {mg : Str → Option Value} (T : Txt K mg) : GF K d_Fingerprint_lengths ["self"] := ⟨T.c.fn 4, (T.c.fn 4 (d := d_Fingerprint_lengths)).bindsN fun _ _ _ _ _ _ us hl => match us, hl with | [_], _ => rfl⟩
theorem Txt.f_Fingerprint_checksums {K : PySem.W.Frag} {mg : Str → Option Value} (T : Txt K mg) : GF K d_Fingerprint_checksums ["self"] := ⟨T.c.fn 5, (T.c.fn 5 (d := d_Fingerprint_checksums)).bindsN fun _ _ _ _ _ _ us hl => match us, hl with | [_], _ => rfl⟩
theorem Txt.f_Fingerprint_first_stale {K : PySem.W.Frag} {mg : Str → Option Value} (T : Txt K mg) : GF K d_Fingerprint_first_stale ["self", "text"] := ⟨T.c.fn 6, (T.c.fn 6 (d := d_Fingerprint_first_stale)).bindsN fun _ _ _ _ _ _ us hl => match us, hl with | [_, _], _ => rfl⟩
theorem Txt.f_Fingerprint_len {K : PySem.W.Frag} {mg : Str → Option Value} (T : Txt K mg) : GF K d_Fingerprint_len ["self"] := ⟨T.c.fn 7, (T.c.fn 7 (d := d_Fingerprint_len)).bindsN fun _ _ _ _ _ _ us hl => match us, hl with | [_], _ => rfl⟩
theorem Txt.f_Fingerprint_getitem {K : PySem.W.Frag} {mg : Str → Option Value} (T : Txt K mg) : GF K d_Fingerprint_getitem ["self", "at"] := ⟨T.c.fn 8, (T.c.fn 8 (d := d_Fingerprint_getitem)).bindsN fun _ _ _ _ _ _ us hl => match us, hl with | [_, _], _ => rfl⟩
theorem Txt.f_Fingerprint_eq {K : PySem.W.Frag} {mg : Str → Option Value} (T : Txt K mg) : GF K d_Fingerprint_eq ["self", "other"] := ⟨T.c.fn 9, (T.c.fn 9 (d := d_Fingerprint_eq)).bindsN fun _ _ _ _ _ _ us hl => match us, hl with | [_, _], _ => rfl⟩
theorem Txt.f_law_stream {K : PySem.W.Frag} {mg : Str → Option Value} (T : Txt K mg) : GF K d_law_stream ["script", "k"] := ⟨T.c.fn 10, (T.c.fn 10 (d := d_law_stream)).bindsN fun _ _ _ _ _ _ us hl => match us, hl with | [_, _], _ => rfl⟩
theorem Txt.f_law_pick {K : PySem.W.Frag} {mg : Str → Option Value} (T : Txt K mg) : GF K d_law_pick ["stream", "amount"] := ⟨T.c.fn 11, (T.c.fn 11 (d := d_law_pick)).bindsN fun _ _ _ _ _ _ us hl => match us, hl with | [_, _], _ => rfl⟩
theorem Txt.f_law_text {K : PySem.W.Frag} {mg : Str → Option Value} (T : Txt K mg) : GF K d_law_text ["stream"] := ⟨T.c.fn 12, (T.c.fn 12 (d := d_law_text)).bindsN fun _ _ _ _ _ _ us hl => match us, hl with | [_], _ => rfl⟩
theorem Txt.f_law_number {K : PySem.W.Frag} {mg : Str → Option Value} (T : Txt K mg) : GF K d_law_number ["signs"] := ⟨T.c.fn 13, (T.c.fn 13 (d := d_law_number)).bindsN fun _ _ _ _ _ _ us hl => match us, hl with | [_], _ => rfl⟩
theorem Txt.f_law_rows {K : PySem.W.Frag} {mg : Str → Option Value} (T : Txt K mg) : GF K d_law_rows ["signs"] := ⟨T.c.fn 14, (T.c.fn 14 (d := d_law_rows)).bindsN fun _ _ _ _ _ _ us hl => match us, hl with | [_], _ => rfl⟩
theorem Txt.f_law_changed {K : PySem.W.Frag} {mg : Str → Option Value} (T : Txt K mg) : GF K d_law_changed ["stream", "signs"] := ⟨T.c.fn 15, (T.c.fn 15 (d := d_law_changed)).bindsN fun _ _ _ _ _ _ us hl => match us, hl with | [_, _], _ => rfl⟩
theorem Txt.f_law_first {K : PySem.W.Frag} {mg : Str → Option Value} (T : Txt K mg) : GF K d_law_first ["one", "other"] := ⟨T.c.fn 16, (T.c.fn 16 (d := d_law_first)).bindsN fun _ _ _ _ _ _ us hl => match us, hl with | [_, _], _ => rfl⟩
theorem Txt.f_law_right {K : PySem.W.Frag} {mg : Str → Option Value} (T : Txt K mg) : GF K d_law_right ["stream"] := ⟨T.c.fn 17, (T.c.fn 17 (d := d_law_right)).bindsN fun _ _ _ _ _ _ us hl => match us, hl with | [_], _ => rfl⟩
theorem Txt.f_law {K : PySem.W.Frag} {mg : Str → Option Value} (T : Txt K mg) : GF K d_law ["script"] := ⟨T.c.fn 18, (T.c.fn 18 (d := d_law)).bindsN fun _ _ _ _ _ _ us hl => match us, hl with | [_], _ => rfl⟩
theorem Txt.m_need_text {K : PySem.W.Frag} {mg : Str → Option Value} (T : Txt K mg) : mg "need_text" = some (.ref (d_need_text.adr K)) := T.g _ _ (eqO_ok (T.c.ex 0))
theorem Txt.m_lines_of {K : PySem.W.Frag} {mg : Str → Option Value} (T : Txt K mg) : mg "lines_of" = some (.ref (d_lines_of.adr K)) := T.g _ _ (eqO_ok (T.c.ex 1))
theorem Txt.m_checksum {K : PySem.W.Frag} {mg : Str → Option Value} (T : Txt K mg) : mg "checksum" = some (.ref (d_checksum.adr K)) := T.g _ _ (eqO_ok (T.c.ex 2))
theorem Txt.M_Fingerprint_init {K : PySem.W.Frag} {mg : Str → Option Value} (T : Txt K mg) : Meth K (ga K "Fingerprint") "__init__" (d_Fingerprint_init.adr K) := meth_ok (T.c.ex 3)
theorem Txt.p_Fingerprint_lengths {K : PySem.W.Frag} {mg : Str → Option Value} (T : Txt K mg) : PropOf K (ga K "Fingerprint") "lengths" (propA "Fingerprint" "lengths" K) (d_Fingerprint_lengths.adr K) := propB_ok (T.c.ex 4)
theorem Txt.p_Fingerprint_checksums {K : PySem.W.Frag} {mg : Str → Option Value} (T : Txt K mg) : PropOf K (ga K "Fingerprint") "checksums" (propA "Fingerprint" "checksums" K) (d_Fingerprint_checksums.adr K) := propB_ok (T.c.ex 5)
theorem Txt.M_Fingerprint_first_stale {K : PySem.W.Frag} {mg : Str → Option Value} (T : Txt K mg) : Meth K (ga K "Fingerprint") "first_stale" (d_Fingerprint_first_stale.adr K) := meth_ok (T.c.ex 6)
theorem Txt.M_Fingerprint_len {K : PySem.W.Frag} {mg : Str → Option Value} (T : Txt K mg) : Meth K (ga K "Fingerprint") "__len__" (d_Fingerprint_len.adr K) := meth_ok (T.c.ex 7)
theorem Txt.M_Fingerprint_getitem {K : PySem.W.Frag} {mg : Str → Option Value} (T : Txt K mg) : Meth K (ga K "Fingerprint") "__getitem__" (d_Fingerprint_getitem.adr K) := meth_ok (T.c.ex 8)
theorem Txt.M_Fingerprint_eq {K : PySem.W.Frag} {mg : Str → Option Value} (T : Txt K mg) : Meth K (ga K "Fingerprint") "__eq__" (d_Fingerprint_eq.adr K) := meth_ok (T.c.ex 9)
theorem Txt.m_law_stream {K : PySem.W.Frag} {mg : Str → Option Value} (T : Txt K mg) : mg "_law_stream" = some (.ref (d_law_stream.adr K)) := T.g _ _ (eqO_ok (T.c.ex 10))
theorem Txt.m_law_pick {K : PySem.W.Frag} {mg : Str → Option Value} (T : Txt K mg) : mg "_law_pick" = some (.ref (d_law_pick.adr K)) := T.g _ _ (eqO_ok (T.c.ex 11))
theorem Txt.m_law_text {K : PySem.W.Frag} {mg : Str → Option Value} (T : Txt K mg) : mg "_law_text" = some (.ref (d_law_text.adr K)) := T.g _ _ (eqO_ok (T.c.ex 12))
theorem Txt.m_law_number {K : PySem.W.Frag} {mg : Str → Option Value} (T : Txt K mg) : mg "_law_number" = some (.ref (d_law_number.adr K)) := T.g _ _ (eqO_ok (T.c.ex 13))
theorem Txt.m_law_rows {K : PySem.W.Frag} {mg : Str → Option Value} (T : Txt K mg) : mg "_law_rows" = some (.ref (d_law_rows.adr K)) := T.g _ _ (eqO_ok (T.c.ex 14))
theorem Txt.m_law_changed {K : PySem.W.Frag} {mg : Str → Option Value} (T : Txt K mg) : mg "_law_changed" = some (.ref (d_law_changed.adr K)) := T.g _ _ (eqO_ok (T.c.ex 15))
theorem Txt.m_law_first {K : PySem.W.Frag} {mg : Str → Option Value} (T : Txt K mg) : mg "_law_first" = some (.ref (d_law_first.adr K)) := T.g _ _ (eqO_ok (T.c.ex 16))
theorem Txt.m_law_right {K : PySem.W.Frag} {mg : Str → Option Value} (T : Txt K mg) : mg "_law_right" = some (.ref (d_law_right.adr K)) := T.g _ _ (eqO_ok (T.c.ex 17))
theorem Txt.m_law {K : PySem.W.Frag} {mg : Str → Option Value} (T : Txt K mg) : mg "law" = some (.ref (d_law.adr K)) := T.g _ _ (eqO_ok (T.c.ex 18))
theorem Txt.m_Fingerprint {K : PySem.W.Frag} {mg : Str → Option Value} (T : Txt K mg) : mg "Fingerprint" = some (.ref (ga K "Fingerprint")) := T.g _ _ (eqO_ok (T.c.ex 19))
theorem Txt.c_Fingerprint {K : PySem.W.Frag} {mg : Str → Option Value} (T : Txt K mg) : Cls K (ga K "Fingerprint") := cls_ok (T.c.ex 20)
theorem Txt.k_Fingerprint {K : PySem.W.Frag} {mg : Str → Option Value} (T : Txt K mg) : Mk K (ga K "Fingerprint") (d_Fingerprint_init.adr K) := mkr_ok (T.c.ex 21)
theorem Txt.na_Fingerprint_own_numbers {K : PySem.W.Frag} {mg : Str → Option Value} (T : Txt K mg) : NoAttr K (ga K "Fingerprint") "own_numbers" := noat_ok (T.c.ex 22)
theorem Txt.t_Fingerprint {K : PySem.W.Frag} {mg : Str → Option Value} (T : Txt K mg) : TyC K (ga K "Fingerprint") := tyB_ok (T.c.ex 23)
theorem Txt.a_Fingerprint_list {K : PySem.W.Frag} {mg : Str → Option Value} (T : Txt K mg) : PySem.W.kitOne K (.type "list") (.ref (ga K "Fingerprint")) = some false ∧ PySem.W.notFirst K (ga K "Fingerprint") (.type "list") = true := kitN_ok (T.c.ex 24)
theorem Txt.a_Fingerprint_str {K : PySem.W.Frag} {mg : Str → Option Value} (T : Txt K mg) : PySem.W.kitOne K (.type "str") (.ref (ga K "Fingerprint")) = some false ∧ PySem.W.notFirst K (ga K "Fingerprint") (.type "str") = true := kitN_ok (T.c.ex 25)
theorem Txt.n_len {K : PySem.W.Frag} {mg : Str → Option Value} (T : Txt K mg) : mg "len" = none := T.g _ _ (eqO_ok (T.c.ex 26))
theorem Txt.n_tuple {K : PySem.W.Frag} {mg : Str → Option Value} (T : Txt K mg) : mg "tuple" = none := T.g _ _ (eqO_ok (T.c.ex 27))
theorem Txt.n_isinstance {K : PySem.W.Frag} {mg : Str → Option Value} (T : Txt K mg) : mg "isinstance" = none := T.g _ _ (eqO_ok (T.c.ex 28))
theorem Txt.n_str {K : PySem.W.Frag} {mg : Str → Option Value} (T : Txt K mg) : mg "str" = none := T.g _ _ (eqO_ok (T.c.ex 29))
theorem Txt.n_int {K : PySem.W.Frag} {mg : Str → Option Value} (T : Txt K mg) : mg "int" = none := T.g _ _ (eqO_ok (T.c.ex 30))
theorem Txt.n_bool {K : PySem.W.Frag} {mg : Str → Option Value} (T : Txt K mg) : mg "bool" = none := T.g _ _ (eqO_ok (T.c.ex 31))
theorem Txt.n_sum {K : PySem.W.Frag} {mg : Str → Option Value} (T : Txt K mg) : mg "sum" = none := T.g _ _ (eqO_ok (T.c.ex 32))
theorem Txt.n_ord {K : PySem.W.Frag} {mg : Str → Option Value} (T : Txt K mg) : mg "ord" = none := T.g _ _ (eqO_ok (T.c.ex 33))
theorem Txt.n_enumerate {K : PySem.W.Frag} {mg : Str → Option Value} (T : Txt K mg) : mg "enumerate" = none := T.g _ _ (eqO_ok (T.c.ex 34))
theorem Txt.n_zip {K : PySem.W.Frag} {mg : Str → Option Value} (T : Txt K mg) : mg "zip" = none := T.g _ _ (eqO_ok (T.c.ex 35))
theorem Txt.n_range {K : PySem.W.Frag} {mg : Str → Option Value} (T : Txt K mg) : mg "range" = none := T.g _ _ (eqO_ok (T.c.ex 36))
theorem Txt.n_min {K : PySem.W.Frag} {mg : Str → Option Value} (T : Txt K mg) : mg "min" = none := T.g _ _ (eqO_ok (T.c.ex 37))
theorem Txt.n_max {K : PySem.W.Frag} {mg : Str → Option Value} (T : Txt K mg) : mg "max" = none := T.g _ _ (eqO_ok (T.c.ex 38))
theorem Txt.g_MODULUS {K : PySem.W.Frag} {mg : Str → Option Value} (T : Txt K mg) : ∃ t, mg "MODULUS" = some (.int 99999989 t) := intG T.g (T.c.ex 39)
end K79
/-! K79B -/
set_option Elab.async false
set_option linter.all false
set_option maxRecDepth 100000
set_option maxHeartbeats 4000000
namespace K79
open PySem PySem.Spec PyProof.Rows L2 My He
/-! ### numbers of lines -/
def wsum : Nat → List Nat → Int
  | _, [] => 0
  | k, c :: r => ((k : Int) + 1) * (c : Int) + wsum (k + 1) r
def csum (l : List Nat) : Int := wsum 0 l % 99999989
def num (l : List Nat) : Int × Int := ((l.length : Int), csum l)
def nums (l : List Nat) : List (Int × Int) := (cutAt 10 l).map num
def prD (p : Int × Int) : PyData := .tuple [.int p.1, .int p.2]
def prs (ns : List (Int × Int)) : List PyData := ns.map prD

/-- the weighted signs -/
def wl : Nat → List Nat → List Int
  | _, [] => []
  | k, c :: r => (((k : Int) + 1) * (c : Int)) :: wl (k + 1) r
theorem wl_len : ∀ (k : Nat) (l : List Nat), (wl k l).length = l.length
  | _, [] => rfl
  | k, c :: r => congrArg (· + 1) (wl_len (k + 1) r)
theorem wl_sum : ∀ (k : Nat) (l : List Nat), (wl k l).sum = wsum k l
  | _, [] => rfl
  | k, c :: r => by
    show ((((k : Int) + 1) * (c : Int)) :: wl (k + 1) r).sum = _
    rw [List.sum_cons, wl_sum (k + 1) r]
    rfl
theorem wl_get : ∀ (k : Nat) (l : List Nat) (i c : Nat), l[i]? = some c → (wl k l)[i]? = some (((k : Int) + (i : Int) + 1) * (c : Int))
  | _, [], i, c, h => by simp at h
  | k, a :: r, 0, c, h => by
    have e : a = c := by simpa using h
    subst e
    show some (((k : Int) + 1) * (a : Int)) = _
    rw [show (k : Int) + ((0 : Nat) : Int) + 1 = (k : Int) + 1 by omega]
  | k, a :: r, i + 1, c, h => by
    have ih := wl_get (k + 1) r i c (by simpa using h)
    show (wl (k + 1) r)[i]? = _
    rw [ih, show ((k + 1 : Nat) : Int) + (i : Int) + 1 = (k : Int) + ((i + 1 : Nat) : Int) + 1 by omega]
theorem take_next {α : Type} {l : List α} {i : Nat} {x : α} (h : l[i]? = some x) : l.take (i + 1) = l.take i ++ [x] := by
  rw [List.take_succ, h]
  rfl
theorem iteD0 {c A B : Prop} [Decidable c] (hc : ¬ c) (h : B) : if decide c = true then A else B := by
  rw [decide_eq_false hc]
  exact iteF h
theorem iteD1 {c A B : Prop} [Decidable c] (hc : c) (h : A) : if decide c = true then A else B := by
  rw [decide_eq_true hc]
  exact iteT h
theorem iteND1 {c A B : Prop} [Decidable c] (hc : c) (h : B) : if (!decide c) = true then A else B := by
  rw [decide_eq_true hc]
  exact iteF h
theorem iteND0 {c A B : Prop} [Decidable c] (hc : ¬ c) (h : A) : if (!decide c) = true then A else B := by
  rw [decide_eq_false hc]
  exact iteT h
theorem isi_str {K : PySem.W.Frag} {H : Hp} {Q : VK} (z : Str) (q : Q (.bl true) H) : rIsi K [.str z, .ty "str"] H Q :=
  ⟨_, _, _, _, true, rfl, .ty "str", .base (.str z), kit_ty (by decide +kernel), q⟩

/-! ### promises -/
def spNeed : Sp := fun vs H Q _ => ∃ z, vs = [.str z] ∧ Q .non H
def spLines : Sp := fun vs H Q _ => ∃ l, vs = [.str (tx l)] ∧ l.length ≤ 1000000 ∧ ∀ p H', Same H H' → H' p = some (.tup ((cutAt 10 l).map fun l => V.str (tx l))) → Q (.ref p) H'
def spCheck : Sp := fun vs H Q _ => ∃ l, vs = [.str (tx l)] ∧ 10 ∉ l ∧ l.length ≤ 1000000 ∧ ∀ H', Same H H' → Q (.int (csum l)) H'

section
variable {P : Program} {w : World} {K : PySem.W.Frag} {mg : Str → Option Value} {base : Heap}
theorem ok_need_text (T : Txt K mg) : FnOk P w K mg base CX0 1 (d_need_text.adr K) (fdAt K (d_need_text.adr K)) ["text"] spNeed := by
  refine T.f_need_text.F.ok0 sc_need_text (fun vs H Q E h => ?_) (fun cdv A outer s H vs Q E hr h => ?_)
  · obtain ⟨z, rfl, _⟩ := h
    rfl
  · obtain ⟨z, rfl, k⟩ := h
    refine ⟨_, (pss_one (ps_if (pt_not (pt_val (pe_callB (call_isiK K) (by rfl) T.n_isinstance (by decide +kernel) (pa_cons (pv 0) (pa_cons (pe_bltn (v := .ty "str") (by rfl) T.n_str (by decide +kernel) rfl) pa_nil)))))
      (pss_one ps_never)
      pss_nil)), ?_⟩
    refine ⟨_, rfl, .str z, .ty "str", _, _, true, rfl, .ty "str", .base (.str z), kit_ty (by decide +kernel), _, rfl, ?_⟩
    exact iteF k
theorem ok_lines_of (T : Txt K mg) : FnOk P w K mg base CX0 2 (d_lines_of.adr K) (fdAt K (d_lines_of.adr K)) ["text"] spLines := by
  refine T.f_lines_of.F.ok0 sc_lines_of (fun vs H Q E h => ?_) (fun cdv A outer s H vs Q E hr h => ?_)
  · obtain ⟨z, rfl, _⟩ := h
    rfl
  · obtain ⟨l, rfl, hl, k⟩ := h
    refine ⟨_, (pss_cons (ps_expr (pe_call (ok_need_text T) (hr.mono (by decide)) (by rfl) T.m_need_text T.f_need_text.F.kp T.f_need_text.b .nil pass0 (pa_cons (pv 0) pa_nil)))
      (pss_one (ps_ret (pe_callTy (call_tuple_ofK K) (by rfl) T.n_tuple (by decide +kernel) (pa_cons (pe_split (pv 0) pe_str) pa_nil))))), ?_⟩
    refine ⟨_, rfl, tx l, rfl, ?_⟩
    refine ⟨_, rfl, ⟨_, rfl⟩, tx l, _, rfl, rfl, rfl, ?_, fun p hp => ?_⟩
    · rw [len_tx]
      exact Nat.le_trans (Nat.add_le_add_right hl 2) (by decide)
    · refine ⟨p, _, rfl, .inl ⟨SqL.of upd_same, fun t ht => ?_⟩⟩
      refine k t _ (Same.new (Same.one H hp) ht) ?_
      rw [upd_same, show (Txt.split (tx l) "\n") = _ from split_eq (tx l) 10 (by decide)]
      rw [List.map_map]
      rfl
theorem ok_checksum (T : Txt K mg) : FnOk P w K mg base CX0 1 (d_checksum.adr K) (fdAt K (d_checksum.adr K)) ["signs"] spCheck := by
  obtain ⟨tM, hM_MODULUS⟩ := T.g_MODULUS
  refine T.f_checksum.F.ok0 sc_checksum (fun vs H Q E h => ?_) (fun cdv A outer s H vs Q E hr h => ?_)
  · obtain ⟨z, rfl, _⟩ := h
    rfl
  · obtain ⟨l, rfl, h10, hl, k⟩ := h
    refine ⟨_, (pss_cons (ps_if (PW.pt (pw_or (pt_not (pt_val (pe_callB (call_isiK K) (by rfl) T.n_isinstance (by decide +kernel) (pa_cons (pv 0) (pa_cons (pe_bltn (v := .ty "str") (by rfl) T.n_str (by decide +kernel) rfl) pa_nil))))) (pw_or1 (pt_cmpR op_in_sign pe_str (pv 0) rfl))))
      (pss_one ps_never)
      pss_nil)
      (pss_one (ps_ret (pe_op op_mod (pe_callB (cr_sumK K rfl) (by rfl) T.n_sum (by decide +kernel) (pa_cons (pe_lc (own := [("index", 1), ("sign", 2)]) (g := (gTup K 2 (gCons (gName 1) (gCons (gName 2) gNil)))) (tt := tYes) (by rfl) sc_checksum.nd (pi_enumT (by rfl) T.n_enumerate (pa_cons (pv 0) pa_nil)) (blkOk_by (own := [("index", 1), ("sign", 2)]) (N := ["signs", "index", "sign"]) (sc := defScope s_checksum) (by decide +kernel)) (fun _ _ _ _ _ => (pg_tupK K rfl (pgs_cons (pg_name (i := 1) sc_checksum.nd rfl (Or.inl rfl)) (pgs_cons (pg_name (i := 2) sc_checksum.nd rfl (Or.inl rfl)) pgs_nil)))) (fun _ _ _ _ _ => pts_nil) (fun _ _ _ _ _ => (pe_op op_mul (pe_op op_add (pv 1) pe_int) (pe_callB call_ord (by rfl) T.n_ord (by decide +kernel) (pa_cons (pv 2) pa_nil))))) pa_nil)) (pe_glob (v := .int 99999989) (by rfl) hM_MODULUS ⟨_, rfl⟩))))), ?_⟩
    refine ⟨_, rfl, .str (tx l), .ty "str", _, _, true, rfl, .ty "str", .base (.str _), kit_ty (by decide +kernel), _, rfl, ?_⟩
    refine iteF ?_
    refine ⟨_, rfl, 10, tx l, rfl, rfl, _, rfl, ?_⟩
    refine iteD0 h10 ?_
    refine ⟨_, rfl, tx l, rfl, fun D hD => ?_⟩
    refine lc_it walk_enumT (fun i H' => Same H H' ∧ H' D = some (.lst (((wl 0 l).take i).map V.int))) ⟨Same.one H hD, upd_same⟩ (fun _ _ _ _ => trivial) ?_ ?_
    · rintro i x H1 H2 hi ⟨s1, hD1⟩ ⟨p, c, rfl, hp, rfl, hc⟩
      have hc' : l[i]? = some c := by simpa using hc
      have hi' : i < l.length := by simpa using hi
      have npD : D ≠ p := ne_of_none hD1 hp
      refine ⟨p, _, rfl, SqT.of upd_same, rfl, _, _, rfl, _, _, rfl, rfl, rfl, ?_⟩
      refine ⟨_, rfl, _, _, rfl, rfl, _, rfl, ⟨#[c]⟩, rfl, rfl, _, _, rfl, rfl, .inl ⟨by omega, by omega⟩, _, by rw [upd_ne npD]; exact hD1, ?_, ?_⟩
      · rw [List.length_map, List.length_take]
        exact Nat.lt_of_le_of_lt (Nat.le_trans (Nat.min_le_left _ _) (Nat.le_of_lt hi')) (Nat.lt_of_le_of_lt hl (by decide))
      · refine ⟨Same.mut (Same.new s1 hp) hD, ?_⟩
        rw [upd_same, take_next (wl_get 0 l i c hc'), List.map_append]
        have e0 : (((0 : Nat) : Int) + (i : Int) + 1) * (c : Int) = ((i : Int) + 1) * (c : Int) := by rw [show ((0 : Nat) : Int) + (i : Int) + 1 = (i : Int) + 1 by omega]
        rw [e0]
        rfl
    · rintro H1 ⟨s1, hD1⟩
      refine ⟨D, wl 0 l, rfl, ?_, _, _, rfl, rfl, (by show (0 : Int) < 99999989; decide), ?_⟩
      · refine SqL.of ?_
        rw [hD1, List.take_of_length_le]
        rw [wl_len]
        simp
      · rw [wl_sum]
        exact k H1 s1
end
end K79
/-! K79C -/
set_option Elab.async false
set_option linter.all false
set_option maxRecDepth 100000
set_option maxHeartbeats 4000000
namespace K79
open PySem PySem.Spec PyProof.Rows L2 My He
def FpAt (K : PySem.W.Frag) (H : Hp) (p : Addr) (ns : List (Int × Int)) : Prop := ∃ dx t xs, H p = some (.ins (ga K "Fingerprint") dx [("own_numbers", .ref t)]) ∧ H t = some (.tup xs) ∧ DpAll K H xs (prs ns)
theorem FpAt.same {K : PySem.W.Frag} {H H' : Hp} {p : Addr} {ns : List (Int × Int)} (h : FpAt K H p ns) (e : Same H H') : FpAt K H' p ns := by
  obtain ⟨dx, t, xs, h1, h2, h3⟩ := h
  exact ⟨dx, t, xs, e _ _ h1, e _ _ h2, dpAll_same e h3⟩
theorem FpAt.dp {K : PySem.W.Frag} {H : Hp} {p : Addr} {ns : List (Int × Int)} (h : FpAt K H p ns) : ∃ dx t, H p = some (.ins (ga K "Fingerprint") dx [("own_numbers", .ref t)]) ∧ Dp K H (.ref t) (.tuple (prs ns)) := by
  obtain ⟨dx, t, xs, h1, h2, h3⟩ := h
  exact ⟨dx, t, h1, .tup (SqT.of h2) h3⟩
theorem dp_pair {K : PySem.W.Frag} {H : Hp} {v : V} {p : Int × Int} (h : Dp K H v (prD p)) : ∃ a, v = .ref a ∧ SqT K H a [.int p.1, .int p.2] := by
  obtain ⟨a, xs, rfl, s, d⟩ := dp_tup h
  obtain ⟨x, r, rfl, dx, d⟩ := dpAll_cons d
  obtain ⟨y, r, rfl, dy, d⟩ := dpAll_cons d
  cases dpAll_nil d
  cases dp_int dx
  cases dp_int dy
  exact ⟨a, rfl, s⟩
theorem dp_pair' {K : PySem.W.Frag} {H : Hp} {a : Addr} {p : Int × Int} (h : SqT K H a [.int p.1, .int p.2]) : Dp K H (.ref a) (prD p) :=
  .tup h (.cons (.int _) (.cons (.int _) .nil))
/-! ### promises -/
def spInit (K : PySem.W.Frag) : Sp := fun vs H Q _ => ∃ x dx l, vs = [.ref x, .str (tx l)] ∧ H x = some (.ins (ga K "Fingerprint") dx []) ∧ l.length ≤ 1000000 ∧ ∀ H', But x H H' → FpAt K H' x (nums l) → Q .non H'
section
variable {P : Program} {w : World} {K : PySem.W.Frag} {mg : Str → Option Value} {base : Heap}
theorem cut_len (l : List Nat) : (cutAt 10 l).length ≤ l.length + 1 := by
  have h := glue_len 10 (cutAt 10 l)
  rw [glue_cutAt, if_neg (cutAt_ne 10 l)] at h
  have : (cutAt 10 l).length ≤ ((cutAt 10 l).map fun p => p.length + 1).sum := by
    generalize cutAt 10 l = L
    clear h
    induction L with
    | nil => exact Nat.le_refl _
    | cons p r ih => 
      rw [List.map_cons, List.sum_cons, List.length_cons]
      omega
  omega
theorem nums_len (l : List Nat) : (nums l).length = (cutAt 10 l).length := by
  unfold nums
  rw [List.length_map]
theorem nums_get {l : List Nat} {i : Nat} {q : List Nat} (h : (cutAt 10 l)[i]? = some q) : (prs (nums l))[i]? = some (prD (num q)) := by
  unfold prs nums
  rw [List.getElem?_map, List.getElem?_map, h]
  rfl
theorem cut_small (l : List Nat) : ∀ p ∈ cutAt 10 l, p.length ≤ l.length := by
  intro p hp
  have h := glue_len 10 (cutAt 10 l)
  rw [glue_cutAt, if_neg (cutAt_ne 10 l)] at h
  have : p.length + 1 ≤ ((cutAt 10 l).map fun p => p.length + 1).sum := by
    have hm : p.length + 1 ∈ (cutAt 10 l).map fun p => p.length + 1 := List.mem_map.mpr ⟨p, hp, rfl⟩
    exact le_sum hm
  omega
theorem ok_Fingerprint_init (T : Txt K mg) : FnOk P w K mg base CX0 3 (d_Fingerprint_init.adr K) (fdAt K (d_Fingerprint_init.adr K)) ["self", "text"] (spInit K) := by
  refine T.f_Fingerprint_init.F.ok0 sc_Fingerprint_init (fun vs H Q E h => ?_) (fun cdv A outer s H vs Q E hr h => ?_)
  · obtain ⟨x, dx, l, rfl, _⟩ := h
    rfl
  · obtain ⟨x, dx, l, rfl, hx, hl, k⟩ := h
    refine ⟨_, (pss_one (ps_fldK K (pv 0) (pe_callTy (call_tuple_ofK K) (by rfl) T.n_tuple (by decide +kernel) (pa_cons (pe_lc (own := [("signs", 2)]) (g := (gName 2)) (tt := tYes) (by rfl) sc_Fingerprint_init.nd (pi_tupK K (pe_call (ok_lines_of T) (hr.mono (by decide)) (by rfl) T.m_lines_of T.f_lines_of.F.kp T.f_lines_of.b .nil pass0 (pa_cons (pv 1) pa_nil))) (blkOk_by (own := [("signs", 2)]) (N := ["self", "text", "signs"]) (sc := defScope s_Fingerprint_init) (by decide +kernel)) (fun _ _ _ _ _ => (pg_name (i := 2) sc_Fingerprint_init.nd rfl (Or.inl rfl))) (fun _ _ _ _ _ => pts_nil) (fun _ _ _ _ _ => (pe_tup (pa_cons (pe_callB call_len_str (by rfl) T.n_len (by decide +kernel) (pa_cons (pv 2) pa_nil)) (pa_cons (pe_call (ok_checksum T) (hr.mono (by decide)) (by rfl) T.m_checksum T.f_checksum.F.kp T.f_checksum.b .nil pass0 (pa_cons (pv 2) pa_nil)) pa_nil))))) pa_nil)) rfl)), ?_⟩
    refine ⟨_, rfl, l, rfl, hl, fun p H1 s1 hp => ?_⟩
    refine ⟨p, rfl, ⟨_, SqT.of hp⟩, fun D hD => ?_⟩
    refine lc_map (K := K) (walk_tup (K := K) (a := p) (xs := (cutAt 10 l).map fun l => V.str (tx l))) (prs (nums l)) hD (by rw [prs, nums]; simp) ?_ (fun H s => SqT.of (s _ _ hp)) ?_ ?_
    · rw [List.length_map]
      have h2 : (cutAt 10 l).length ≤ l.length + 1 := cut_len l
      have : (2000000 : Nat) < sizeLine := (by decide)
      omega
    · rintro i x d acc H2 H3 Done hi s2 hv ⟨rfl, hxi⟩ done
      obtain ⟨q, hq, rfl⟩ := map_get hxi
      rw [nums_get hq] at hi
      cases hi
      have hqm : q ∈ cutAt 10 l := List.mem_of_getElem? hq
      have hql : q.length ≤ 1000000 := Nat.le_trans (cut_small l q hqm) hl
      refine ⟨rfl, ?_⟩
      refine ⟨_, rfl, tx q, rfl, (by rw [len_tx]; exact Nat.le_trans hql (by decide)), ?_⟩
      refine ⟨_, rfl, q, rfl, cutAt_no 10 l q hqm, hql, fun H4 s4 => ?_⟩
      refine ⟨(by show 2 ≤ sizeLine; decide), fun t ht => ?_⟩
      have n : t ≠ D := fun e => by
        rw [e, s4 _ _ hv] at ht
        cases ht
      refine done _ _ (Same.new s4 ht) (dp_pair' (SqT.of ?_))
      rw [hide_at n, upd_same, len_tx]
      rfl
    · intro H2 vs s2 hv dv
      refine ⟨D, _, rfl, .inl ⟨SqL.of hv, fun t ht => ?_⟩⟩
      have nD : D ≠ t := ne_of_none hv ht
      have nx : x ≠ t := ne_of_none (hide_le D H2 _ _ (s2 _ _ (s1 _ _ hx))) ht
      have hx2 : upd H2 t (.tup vs) x = some (.ins (ga K "Fingerprint") dx []) := by rw [upd_ne nx]; exact hide_le D H2 _ _ (s2 _ _ (s1 _ _ hx))
      refine ⟨_, rfl, x, _, dx, _, rfl, hx2, T.c_Fingerprint, T.na_Fingerprint_own_numbers, (by decide), ?_⟩
      have sA : Same H (hide D H2) := Same.trans s1 s2
      have sT : Same (hide D H2) (upd (hide D H2) t (.tup vs)) := Same.one _ (by rw [hide_at nD.symm]; exact ht)
      have sB : But x H (upd (upd H2 t (.tup vs)) x (.ins (ga K "Fingerprint") dx (putF "own_numbers" (.ref t) []))) := (But.of (Same.new (Same.trans sA (hide_le D H2)) ht)).put
      have nt : t ≠ x := nx.symm
      refine k _ sB ⟨dx, t, vs, upd_same, by rw [upd_ne nt]; exact upd_same, ?_⟩
      refine dpAll_seqs ?_ dv
      exact (Seqs.of (Same.new (hide_le D H2) ht)).put (s2 _ _ (s1 _ _ hx)) rfl
end
end K79
/-! K79D -/
set_option Elab.async false
set_option linter.all false
set_option maxRecDepth 100000
set_option maxHeartbeats 4000000
namespace K79
open PySem PySem.Spec PyProof.Rows L2 My He
def spProp (K : PySem.W.Frag) (f : Int × Int → Int) : Sp := fun vs H Q _ => ∃ p ns, vs = [.ref p] ∧ FpAt K H p ns ∧ ns.length ≤ 1000001 ∧ ∀ H' t, Same H H' → H' t = some (.tup (ns.map fun n => V.int (f n))) → Q (.ref t) H'
def spLen (K : PySem.W.Frag) : Sp := fun vs H Q _ => ∃ p ns, vs = [.ref p] ∧ FpAt K H p ns ∧ Q (.int (ns.length : Int)) H
def spItem (K : PySem.W.Frag) : Sp := fun vs H Q _ => ∃ p ns i n, vs = [.ref p, .int ((i : Nat) : Int)] ∧ FpAt K H p ns ∧ ns.length ≤ 1000001 ∧ ns[i]? = some n ∧ ∀ t, (∀ H0, Same H0 H → FpAt K H0 p ns → Dp K H0 (.ref t) (prD n)) → Q (.ref t) H
def spEq (K : PySem.W.Frag) : Sp := fun vs H Q _ => ∃ p ns y, vs = [.ref p, y] ∧ FpAt K H p ns ∧ ((∃ q ms, y = .ref q ∧ FpAt K H q ms ∧ Q (.bl (decide (ns = ms))) H) ∨ (∃ z, y = .str z ∧ Q (.bl false) H) ∨ (∃ a xs, y = .ref a ∧ H a = some (.lst xs) ∧ Q (.bl false) H))
section
variable {P : Program} {w : World} {K : PySem.W.Frag} {mg : Str → Option Value} {base : Heap}
theorem prs_len (ns : List (Int × Int)) : (prs ns).length = ns.length := by rw [prs, List.length_map]
theorem prs_get {ns : List (Int × Int)} {i : Nat} {n : Int × Int} (h : ns[i]? = some n) : (prs ns)[i]? = some (prD n) := by
  unfold prs
  rw [List.getElem?_map, h]
  rfl
theorem prs_get' {ns : List (Int × Int)} {i : Nat} {d : PyData} (h : (prs ns)[i]? = some d) : ∃ n, ns[i]? = some n ∧ d = prD n := by
  obtain ⟨n, h1, h2⟩ := map_get (f := prD) h
  exact ⟨n, h1, h2.symm⟩
theorem ok_Fingerprint_lengths (T : Txt K mg) : FnOk P w K mg base CX0 1 (d_Fingerprint_lengths.adr K) (fdAt K (d_Fingerprint_lengths.adr K)) ["self"] (spProp K Prod.fst) := by
  refine T.f_Fingerprint_lengths.F.ok0 sc_Fingerprint_lengths (fun vs H Q E h => ?_) (fun cdv A outer s H vs Q E hr h => ?_)
  · obtain ⟨p, ns, rfl, _⟩ := h
    rfl
  · obtain ⟨p, ns, rfl, hp, hl, k⟩ := h
    obtain ⟨dx, t, h1, h2⟩ := hp.dp
    obtain ⟨a, xs, e, st, dv⟩ := dp_tup h2
    cases e
    refine ⟨_, (pss_one (ps_ret (pe_callTy (call_tuple_ofK K) (by rfl) T.n_tuple (by decide +kernel) (pa_cons (pe_lc (own := [("size", 1), ("number", 2)]) (g := (gTup K 2 (gCons (gName 1) (gCons (gName 2) gNil)))) (tt := tYes) (by rfl) sc_Fingerprint_lengths.nd (pi_tupK K (pe_fldK K (pv 0) rfl)) (blkOk_by (own := [("size", 1), ("number", 2)]) (N := ["self", "size", "number"]) (sc := defScope s_Fingerprint_lengths) (by decide +kernel)) (fun _ _ _ _ _ => (pg_tupK K rfl (pgs_cons (pg_name (i := 1) sc_Fingerprint_lengths.nd rfl (Or.inl rfl)) (pgs_cons (pg_name (i := 2) sc_Fingerprint_lengths.nd rfl (Or.inl rfl)) pgs_nil)))) (fun _ _ _ _ _ => pts_nil) (fun _ _ _ _ _ => (pv 1))) pa_nil)))), ?_⟩
    refine ⟨_, rfl, p, _, dx, _, _, rfl, h1, T.c_Fingerprint, T.na_Fingerprint_own_numbers, rfl, ?_⟩
    refine ⟨t, rfl, ⟨_, st⟩, fun D hD => ?_⟩
    refine lc_map (K := K) (walk_tup (K := K) (a := t) (xs := xs)) (ns.map fun n => PyData.int n.1) hD ?_ ?_ (fun H s => Same.tup s st) ?_ ?_
    · rw [List.length_map, dpAll_len dv, prs_len]
    · rw [dpAll_len dv, prs_len]
      exact Nat.lt_of_le_of_lt hl (by decide)
    · rintro i x d acc H2 H3 Done hi s2 hv ⟨rfl, hxi⟩ done
      obtain ⟨n, hn, rfl⟩ := map_get hi
      obtain ⟨d, hd, dx⟩ := dpAll_get dv hxi
      rw [prs_get hn] at hd
      cases hd
      obtain ⟨b, rfl, sb⟩ := dp_pair dx
      refine ⟨b, _, rfl, Same.tup s2 sb, rfl, _, _, rfl, _, _, rfl, rfl, rfl, ?_⟩
      exact ⟨_, rfl, done _ _ (Same.refl _) (.int _)⟩
    · intro H2 ys s2 hv dy
      refine ⟨D, _, rfl, .inl ⟨SqL.of hv, fun u hu => ?_⟩⟩
      refine k _ u (Same.new (Same.trans s2 (hide_le D H2)) hu) ?_
      rw [upd_same, dpAll_mapI dy]
theorem ok_Fingerprint_checksums (T : Txt K mg) : FnOk P w K mg base CX0 1 (d_Fingerprint_checksums.adr K) (fdAt K (d_Fingerprint_checksums.adr K)) ["self"] (spProp K Prod.snd) := by
  refine T.f_Fingerprint_checksums.F.ok0 sc_Fingerprint_checksums (fun vs H Q E h => ?_) (fun cdv A outer s H vs Q E hr h => ?_)
  · obtain ⟨p, ns, rfl, _⟩ := h
    rfl
  · obtain ⟨p, ns, rfl, hp, hl, k⟩ := h
    obtain ⟨dx, t, h1, h2⟩ := hp.dp
    obtain ⟨a, xs, e, st, dv⟩ := dp_tup h2
    cases e
    refine ⟨_, (pss_one (ps_ret (pe_callTy (call_tuple_ofK K) (by rfl) T.n_tuple (by decide +kernel) (pa_cons (pe_lc (own := [("size", 1), ("number", 2)]) (g := (gTup K 2 (gCons (gName 1) (gCons (gName 2) gNil)))) (tt := tYes) (by rfl) sc_Fingerprint_checksums.nd (pi_tupK K (pe_fldK K (pv 0) rfl)) (blkOk_by (own := [("size", 1), ("number", 2)]) (N := ["self", "size", "number"]) (sc := defScope s_Fingerprint_checksums) (by decide +kernel)) (fun _ _ _ _ _ => (pg_tupK K rfl (pgs_cons (pg_name (i := 1) sc_Fingerprint_checksums.nd rfl (Or.inl rfl)) (pgs_cons (pg_name (i := 2) sc_Fingerprint_checksums.nd rfl (Or.inl rfl)) pgs_nil)))) (fun _ _ _ _ _ => pts_nil) (fun _ _ _ _ _ => (pv 2))) pa_nil)))), ?_⟩
    refine ⟨_, rfl, p, _, dx, _, _, rfl, h1, T.c_Fingerprint, T.na_Fingerprint_own_numbers, rfl, ?_⟩
    refine ⟨t, rfl, ⟨_, st⟩, fun D hD => ?_⟩
    refine lc_map (K := K) (walk_tup (K := K) (a := t) (xs := xs)) (ns.map fun n => PyData.int n.2) hD ?_ ?_ (fun H s => Same.tup s st) ?_ ?_
    · rw [List.length_map, dpAll_len dv, prs_len]
    · rw [dpAll_len dv, prs_len]
      exact Nat.lt_of_le_of_lt hl (by decide)
    · rintro i x d acc H2 H3 Done hi s2 hv ⟨rfl, hxi⟩ done
      obtain ⟨n, hn, rfl⟩ := map_get hi
      obtain ⟨d, hd, dx⟩ := dpAll_get dv hxi
      rw [prs_get hn] at hd
      cases hd
      obtain ⟨b, rfl, sb⟩ := dp_pair dx
      refine ⟨b, _, rfl, Same.tup s2 sb, rfl, _, _, rfl, _, _, rfl, rfl, rfl, ?_⟩
      exact ⟨_, rfl, done _ _ (Same.refl _) (.int _)⟩
    · intro H2 ys s2 hv dy
      refine ⟨D, _, rfl, .inl ⟨SqL.of hv, fun u hu => ?_⟩⟩
      refine k _ u (Same.new (Same.trans s2 (hide_le D H2)) hu) ?_
      rw [upd_same, dpAll_mapI dy]
theorem ok_Fingerprint_len (T : Txt K mg) : FnOk P w K mg base CX0 1 (d_Fingerprint_len.adr K) (fdAt K (d_Fingerprint_len.adr K)) ["self"] (spLen K) := by
  refine T.f_Fingerprint_len.F.ok0 sc_Fingerprint_len (fun vs H Q E h => ?_) (fun cdv A outer s H vs Q E hr h => ?_)
  · obtain ⟨p, ns, rfl, _⟩ := h
    rfl
  · obtain ⟨p, ns, rfl, hp, k⟩ := h
    obtain ⟨dx, t, h1, h2⟩ := hp.dp
    obtain ⟨a, xs, e, st, dv⟩ := dp_tup h2
    cases e
    refine ⟨_, (pss_one (ps_ret (pe_callB (call_len_seqK K) (by rfl) T.n_len (by decide +kernel) (pa_cons (pe_fldK K (pv 0) rfl) pa_nil)))), ?_⟩
    refine ⟨_, rfl, p, _, dx, _, _, rfl, h1, T.c_Fingerprint, T.na_Fingerprint_own_numbers, rfl, ?_⟩
    refine ⟨t, _, rfl, .inr st, ?_⟩
    rw [dpAll_len dv, prs_len]
    exact k
theorem ok_Fingerprint_getitem (T : Txt K mg) : FnOk P w K mg base CX0 1 (d_Fingerprint_getitem.adr K) (fdAt K (d_Fingerprint_getitem.adr K)) ["self", "at"] (spItem K) := by
  refine T.f_Fingerprint_getitem.F.ok0 sc_Fingerprint_getitem (fun vs H Q E h => ?_) (fun cdv A outer s H vs Q E hr h => ?_)
  · obtain ⟨p, ns, i, n, rfl, _⟩ := h
    rfl
  · obtain ⟨p, ns, i, n, rfl, hp, hl, hi, k⟩ := h
    obtain ⟨dx, t, xs, h1, h2, dv⟩ := id hp
    have st : SqT K H t xs := SqT.of h2
    obtain ⟨x, hx, dpx⟩ := dpAll_get' dv (prs_get hi)
    have hlen : xs.length = ns.length := by rw [dpAll_len dv, prs_len]
    have hil : i < xs.length := (List.getElem?_eq_some_iff.mp hx).1
    refine ⟨_, (pss_cons (ps_if (PW.pt (pw_or (pt_not (pt_val (pe_callB (call_isiK K) (by rfl) T.n_isinstance (by decide +kernel) (pa_cons (pv 1) (pa_cons (pe_bltn (v := .ty "int") (by rfl) T.n_int (by decide +kernel) rfl) pa_nil))))) (pw_or (pt_val (pe_callB (call_isiK K) (by rfl) T.n_isinstance (by decide +kernel) (pa_cons (pv 1) (pa_cons (pe_bltn (v := .ty "bool") (by rfl) T.n_bool (by decide +kernel) rfl) pa_nil)))) (pw_or1 (pt_not (pt_chain op_le op_lt pe_int (pv 1) (pe_callB (call_len_seqK K) (by rfl) T.n_len (by decide +kernel) (pa_cons (pe_fldK K (pv 0) rfl) pa_nil))))))))
      (pss_one ps_never)
      pss_nil)
      (pss_one (ps_ret (pe_ix (ix_tupK K) (pe_fldK K (pv 0) rfl) (pv 1) (fun _ _ => rfl))))), ?_⟩
    refine ⟨_, rfl, .int _, .ty "int", _, _, true, rfl, .ty "int", .base (.int _), kit_ty (by decide +kernel), _, rfl, ?_⟩
    refine iteF ?_
    refine ⟨_, rfl, .int _, .ty "bool", _, _, false, rfl, .ty "bool", .base (.int _), kit_ty (by decide +kernel), _, rfl, ?_⟩
    refine iteF ?_
    refine ⟨_, rfl, _, _, rfl, rfl, _, rfl, ?_⟩
    refine iteD1 (by omega) ?_
    refine ⟨_, rfl, p, _, dx, _, _, rfl, h1, T.c_Fingerprint, T.na_Fingerprint_own_numbers, rfl, ?_⟩
    refine ⟨t, _, rfl, .inr st, _, _, rfl, rfl, _, rfl, ?_⟩
    refine iteND1 (by omega) ?_
    exact ⟨_, rfl, p, _, dx, _, _, rfl, h1, T.c_Fingerprint, T.na_Fingerprint_own_numbers, rfl, _, rfl, t, xs, _, x, rfl, rfl, st, atI_nat hx, by
      obtain ⟨b, rfl, _⟩ := dp_pair dpx
      refine k b fun H0 s0 hf => ?_
      obtain ⟨dx', t', xs', g1, g2, g3⟩ := hf
      have e1 := (s0 _ _ g1).symm.trans h1
      cases e1
      have e2 := (s0 _ _ g2).symm.trans h2
      cases e2
      obtain ⟨d, hd, dd⟩ := dpAll_get g3 hx
      rw [prs_get hi] at hd
      cases hd
      exact dd⟩
theorem shp_prs (ns : List (Int × Int)) : Shp 2 (.tuple (prs ns)) := by
  refine shp_tup fun d hd => ?_
  obtain ⟨n, _, rfl⟩ := List.mem_map.mp hd
  refine shp_tup fun d hd => ?_
  rcases List.mem_cons.mp hd with e | hd
  · rw [e]
    exact shp_int _
  · rw [List.mem_singleton.mp hd]
    exact shp_int _
theorem shp_prD (n : Int × Int) : Shp 1 (prD n) := by
  refine shp_tup fun d hd => ?_
  rcases List.mem_cons.mp hd with e | hd
  · rw [e]
    exact shp_int _
  · rw [List.mem_singleton.mp hd]
    exact shp_int _
theorem eqv_prs (ns ms : List (Int × Int)) : PyData.eqv (.tuple (prs ns)) (.tuple (prs ms)) = decide (ns = ms) := eqvAll_map (f := prD) eqv_pair ns ms
theorem ok_Fingerprint_eq (T : Txt K mg) : FnOk P w K mg base CX0 1 (d_Fingerprint_eq.adr K) (fdAt K (d_Fingerprint_eq.adr K)) ["self", "other"] (spEq K) := by
  refine T.f_Fingerprint_eq.F.ok0 sc_Fingerprint_eq (fun vs H Q E h => ?_) (fun cdv A outer s H vs Q E hr h => ?_)
  · obtain ⟨p, ns, y, rfl, _⟩ := h
    rfl
  · obtain ⟨p, ns, y, rfl, hp, k⟩ := h
    obtain ⟨dx, t, h1, h2⟩ := hp.dp
    refine ⟨_, (pss_one (ps_ret (pe_and (pe_callB (call_isiK K) (by rfl) T.n_isinstance (by decide +kernel) (pa_cons (pv 1) (pa_cons (pe_glob (v := .ref (ga K "Fingerprint")) (by rfl) T.m_Fingerprint rfl) pa_nil))) (pe_one (pe_cmpR (op_eqDK K hr.units) (pe_fldK K (pv 0) rfl) (pe_fldK K (pv 1) rfl) (nomark _)))))), ?_⟩
    rcases k with ⟨q, ms, rfl, hq, k⟩ | ⟨z, rfl, k⟩ | ⟨a, xs, rfl, hx, k⟩
    · obtain ⟨dy, u, h3, h4⟩ := hq.dp
      refine ⟨_, rfl, .ref q, .ref (ga K "Fingerprint"), _, _, true, rfl, .own _, T.t_Fingerprint.of T.c_Fingerprint h3, kit_self, _, rfl, ?_⟩
      refine ⟨_, rfl, p, _, dx, _, _, rfl, h1, T.c_Fingerprint, T.na_Fingerprint_own_numbers, rfl, _, rfl, q, _, dy, _, _, rfl, h3, T.c_Fingerprint, T.na_Fingerprint_own_numbers, rfl, ?_⟩
      refine ⟨_, _, h2, h4, (shp_prs ns).shaped, (shp_prs ms).shaped, ?_⟩
      rw [eqv_prs]
      exact k
    · exact ⟨_, rfl, .str z, .ref (ga K "Fingerprint"), _, _, false, rfl, .own _, .base (.str z), T.a_Fingerprint_str.1, _, rfl, k⟩
    · exact ⟨_, rfl, .ref a, .ref (ga K "Fingerprint"), _, _, false, rfl, .own _, .base (.lst hx), T.a_Fingerprint_list.1, _, rfl, k⟩
/-! ### first_stale -/
/-- the first place where the two differ, or the shorter's end -/
def firstD : List (Int × Int) → List (Int × Int) → Nat → Option Nat
  | [], [], _ => none
  | [], _ :: _, k => some k
  | _ :: _, [], k => some k
  | a :: r, b :: s, k => if a = b then firstD r s (k + 1) else some k
def optV : Option Nat → V
  | none => .non
  | some k => .int (k : Int)
def spStale (K : PySem.W.Frag) : Sp := fun vs H Q _ => ∃ p ns l, vs = [.ref p, .str (tx l)] ∧ FpAt K H p ns ∧ ns.length ≤ 1000001 ∧ l.length ≤ 1000000 ∧ ∀ H', Same H H' → Q (optV (firstD ns (nums l) 0)) H'
theorem firstD_step {a b : Int × Int} {ns ms : List (Int × Int)} {i : Nat} (h1 : ns[i]? = some a) (h2 : ms[i]? = some b) : firstD (ns.drop i) (ms.drop i) i = if a = b then firstD (ns.drop (i + 1)) (ms.drop (i + 1)) (i + 1) else some i := by
  obtain ⟨l1, e1⟩ := List.getElem?_eq_some_iff.mp h1
  obtain ⟨l2, e2⟩ := List.getElem?_eq_some_iff.mp h2
  rw [List.drop_eq_getElem_cons l1, List.drop_eq_getElem_cons l2, e1, e2]
  rfl
theorem firstD_end {ns ms : List (Int × Int)} {i : Nat} (h : i = min ns.length ms.length) : firstD (ns.drop i) (ms.drop i) i = if ns.length = ms.length then none else some i := by
  by_cases e : ns.length = ms.length
  · rw [if_pos e, List.drop_of_length_le (by omega), List.drop_of_length_le (by omega)]
    rfl
  · rw [if_neg e]
    rcases Nat.lt_or_ge ns.length ms.length with q | q
    · rw [List.drop_of_length_le (l := ns) (by omega), List.drop_eq_getElem_cons (show i < ms.length by omega)]
      rfl
    · rw [List.drop_of_length_le (l := ms) (by omega), List.drop_eq_getElem_cons (show i < ns.length by omega)]
      rfl
theorem ok_Fingerprint_first_stale (T : Txt K mg) : FnOk P w K mg base CX0 5 (d_Fingerprint_first_stale.adr K) (fdAt K (d_Fingerprint_first_stale.adr K)) ["self", "text"] (spStale K) := by
  refine T.f_Fingerprint_first_stale.F.ok0 sc_Fingerprint_first_stale (fun vs H Q E h => ?_) (fun cdv A outer s H vs Q E hr h => ?_)
  · obtain ⟨p, ns, l, rfl, _⟩ := h
    rfl
  · obtain ⟨p, ns, l, rfl, hp, hn, hl, k⟩ := h
    refine ⟨_, (pss_cons (ps_set (i := 2) sc_Fingerprint_first_stale.nd rfl (Or.inl rfl) (pe_fldK K (pe_make T.k_Fingerprint (ok_Fingerprint_init T) (hr.mono (by decide)) (by rfl) T.m_Fingerprint T.f_Fingerprint_init.b .nil pass0 (pa_cons (pv 1) pa_nil)) rfl))
      (pss_cons (ps_forEZ PassesOwn.never rfl (by rfl) T.n_enumerate (by rfl) T.n_zip (pa_cons (pe_fldK K (pv 0) rfl) (pa_cons (pv 2) pa_nil)) (pg_tupK K rfl (pgs_cons (pg_name (i := 3) sc_Fingerprint_first_stale.nd rfl (Or.inl rfl)) (pgs_cons (pg_tupK K rfl (pgs_cons (pg_name (i := 4) sc_Fingerprint_first_stale.nd rfl (Or.inl rfl)) (pgs_cons (pg_name (i := 5) sc_Fingerprint_first_stale.nd rfl (Or.inl rfl)) pgs_nil))) pgs_nil)))
      (pss_one (ps_if (pt_cmpR (op_neDK K hr.units) (pv 4) (pv 5) (nomark _))
        (pss_one (ps_ret (pv 3)))
        pss_nil)))
      (pss_cons (ps_set (i := 6) sc_Fingerprint_first_stale.nd rfl (Or.inl rfl) (pe_callB (call_min2 rfl) (by rfl) T.n_min (by decide +kernel) (pa_cons (pe_callB (call_len_seqK K) (by rfl) T.n_len (by decide +kernel) (pa_cons (pe_fldK K (pv 0) rfl) pa_nil)) (pa_cons (pe_callB (call_len_seqK K) (by rfl) T.n_len (by decide +kernel) (pa_cons (pv 2) pa_nil)) pa_nil))))
      (pss_one (ps_ret (pe_ifExp (pt_cmpR op_eq (pe_callB (call_len_seqK K) (by rfl) T.n_len (by decide +kernel) (pa_cons (pe_fldK K (pv 0) rfl) pa_nil)) (pe_callB (call_len_seqK K) (by rfl) T.n_len (by decide +kernel) (pa_cons (pv 2) pa_nil)) (nomark _)) pe_non (pv 6))))))), ?_⟩
    refine ⟨_, rfl, fun x dx hx hdx ne => ?_⟩
    refine ⟨x, dx, l, rfl, upd_same, hl, fun H1 b1 f1 => ⟨rfl, ?_⟩⟩
    have s1 : Same H H1 := fun a o h => b1 a o (by rw [upd_ne (ne_of_none h hx), upd_ne (ne_of_none h hdx)]; exact h) (ne_of_none h hx)
    obtain ⟨dy, u, h3, h4⟩ := f1.dp
    refine ⟨x, _, dy, _, _, rfl, h3, T.c_Fingerprint, T.na_Fingerprint_own_numbers, rfl, ?_⟩
    obtain ⟨dp, t, h1, h2⟩ := (hp.same s1).dp
    obtain ⟨a, xs, e, sa, da⟩ := dp_tup h2
    cases e
    obtain ⟨b, ys, e, sb, db⟩ := dp_tup h4
    cases e
    refine ⟨_, rfl, p, _, dp, _, _, rfl, h1, T.c_Fingerprint, T.na_Fingerprint_own_numbers, rfl, ?_⟩
    have lx : xs.length = ns.length := by rw [dpAll_len da, prs_len]
    have ly : ys.length = (nums l).length := by rw [dpAll_len db, prs_len]
    have hm : (nums l).length ≤ 1000001 := by rw [nums_len]; exact Nat.le_trans (cut_len l) (by omega)
    refine ⟨_, rfl, t, u, xs, ys, rfl, sa, sb, fun i σ H' Z => Same H1 H' ∧ (∃ y3 y4 y5, σ = [some (.ref p), some (.str (tx l)), some (.ref u), y3, y4, y5, none]) ∧ firstD ns (nums l) 0 = firstD (ns.drop i) ((nums l).drop i) i ∧ ∀ c, Z = some c → ∃ zs, H' c = some (.tup zs), ⟨Same.refl _, ⟨_, _, _, rfl⟩, rfl, fun c h => nomatch h⟩, ?_, ?_, ?_⟩
    · rintro i σ H2 Z ⟨s2, _, _, hz⟩
      exact ⟨Same.tup s2 sa, Same.tup s2 sb, hz⟩
    · rintro i σ H2 Z ⟨s2, ⟨y3, y4, y5, rfl⟩, hf, hz⟩ hi
      refine ⟨_, rfl, p, _, dp, _, _, rfl, s2 _ _ h1, T.c_Fingerprint, T.na_Fingerprint_own_numbers, rfl, ?_⟩
      refine ⟨t, _, rfl, .inr (Same.tup s2 sa), ?_⟩
      refine ⟨_, rfl, u, _, rfl, .inr (Same.tup s2 sb), ?_⟩
      refine ⟨_, _, rfl, ?_⟩
      refine ⟨_, rfl, p, _, dp, _, _, rfl, s2 _ _ h1, T.c_Fingerprint, T.na_Fingerprint_own_numbers, rfl, ?_⟩
      refine ⟨t, _, rfl, .inr (Same.tup s2 sa), ?_⟩
      refine ⟨_, rfl, u, _, rfl, .inr (Same.tup s2 sb), ?_⟩
      refine ⟨rfl, _, rfl, ?_⟩
      rw [firstD_end (by rw [← lx, ← ly]; exact hi)] at hf
      rw [hf] at k
      refine ite2 (fun hc => ?_) fun hc => ?_
      · have hc' : ns.length = (nums l).length := by
          have : (xs.length : Int) = (ys.length : Int) := by simpa using hc
          omega
        rw [if_pos hc'] at k
        exact k _ (Same.trans s1 s2)
      · have hc' : ¬ ns.length = (nums l).length := fun e => by
          refine hc ?_
          have : (xs.length : Int) = (ys.length : Int) := by omega
          simp [this]
        rw [if_neg hc'] at k
        refine ⟨_, rfl, ?_⟩
        have e6 : (if (ys.length : Int) < (xs.length : Int) then (ys.length : Int) else (xs.length : Int)) = (i : Int) := by
          split <;> omega
        rw [e6]
        exact k _ (Same.trans s1 s2)
    · rintro i σ H2 Z x y zt T' ⟨s2, ⟨y3, y4, y5, rfl⟩, hf, hz⟩ hx hy hzt hT hne
      obtain ⟨d1, hd1, dx1⟩ := dpAll_get da hx
      obtain ⟨d2, hd2, dy1⟩ := dpAll_get db hy
      obtain ⟨n1, hn1, rfl⟩ := prs_get' hd1
      obtain ⟨n2, hn2, rfl⟩ := prs_get' hd2
      refine ⟨T', _, rfl, SqT.of upd_same, rfl, _, _, rfl, _, _, rfl, zt, _, rfl, SqT.of (by rw [upd_ne hne]; exact upd_same), rfl, _, _, rfl, _, _, rfl, rfl, rfl, ?_⟩
      have sA : Same H2 (upd (upd H2 zt (.tup [x, y])) T' (.tup [.int (i : Nat), .ref zt])) := Same.new (Same.one _ hzt) (by rw [upd_ne hne.symm]; exact hT)
      have sA2 : upd (upd H2 zt (.tup [x, y])) T' (.tup [.int (i : Nat), .ref zt]) zt = some (.tup [x, y]) := by rw [upd_ne hne]; exact upd_same
      refine ⟨_, rfl, _, rfl, _, _, dp_same (Same.trans s2 sA) dx1, dp_same (Same.trans s2 sA) dy1, (shp_prD n1).shaped, (shp_prD n2).shaped, ?_⟩
      rw [show PyData.eqv (prD n1) (prD n2) = decide (n1 = n2) from eqv_pair n1 n2]
      refine ⟨_, rfl, ?_⟩
      rw [firstD_step hn1 hn2] at hf
      by_cases e : n1 = n2
      · refine iteND1 e ?_
        rw [if_pos e] at hf
        refine ⟨Same.trans s2 sA, ⟨_, _, _, rfl⟩, hf, fun c hc => ?_⟩
        cases Z with
        | none =>
          cases hc
          exact ⟨_, sA2⟩
        | some c0 =>
          cases hc
          obtain ⟨zs, hzs⟩ := hz _ rfl
          exact ⟨zs, sA _ _ hzs⟩
      · refine iteND0 e ?_
        rw [if_neg e] at hf
        rw [hf] at k
        exact ⟨_, rfl, k _ (Same.trans s1 (Same.trans s2 sA))⟩
end
end K79
/-! K79E -/
set_option Elab.async false
set_option linter.all false
set_option maxRecDepth 100000
set_option maxHeartbeats 4000000
namespace K79
open PySem PySem.Spec PyProof.Rows L2 My He
/-- the stream: a list of two numbers -/
def StAt (H : Hp) (l : Addr) : Prop := ∃ a b : Int, H l = some (.lst [.int a, .int b])
def spPick : Sp := fun vs H Q _ => ∃ l n, vs = [.ref l, .int n] ∧ StAt H l ∧ 0 < n ∧ n < 1073741824 ∧ ∀ (c : Nat) a b, (c : Int) < n → Q (.int (c : Int)) (upd H l (.lst [.int a, .int b]))
def spStream (K : PySem.W.Frag) : Sp := fun vs H Q _ => ∃ (a : Addr) (ns : List Int) (k : Nat), vs = [.ref a, .int (k : Int)] ∧ SqL K H a (ns.map V.int) ∧ k < 1000 ∧ ∀ l a b, H l = none → Q (.ref l) (upd H l (.lst [.int a, .int b]))
section
variable {P : Program} {w : World} {K : PySem.W.Frag} {mg : Str → Option Value} {base : Heap}
theorem ok_law_pick (T : Txt K mg) : FnOk P w K mg base CX0 1 (d_law_pick.adr K) (fdAt K (d_law_pick.adr K)) ["stream", "amount"] spPick := by
  refine T.f_law_pick.F.ok0 sc_law_pick (fun vs H Q E h => ?_) (fun cdv A outer s H vs Q E hr h => ?_)
  · obtain ⟨l, n, rfl, _⟩ := h
    rfl
  · obtain ⟨l, n, rfl, ⟨a, b, hl⟩, h0, h1, k⟩ := h
    refine ⟨_, (pss_cons (ps_set (i := 2) sc_law_pick.nd rfl (Or.inl rfl) (pe_callTy call_int1 (by rfl) T.n_int (by decide +kernel) (pa_cons (pe_cmpR op_eq (pe_ix (ix_listK K) (pv 0) pe_int (fun _ _ => rfl)) pe_int (nomark _)) pa_nil)))
      (pss_cons (ps_set (i := 3) sc_law_pick.nd rfl (Or.inl rfl) (pe_op op_mod (pe_callTy call_int1 (by rfl) T.n_int (by decide +kernel) (pa_cons (pe_ix (ix_listK K) (pv 0) (pv 2) (fun _ _ => rfl)) pa_nil)) (pv 1)))
      (pss_cons (ps_asg (pe_op op_fdiv (pe_ix (ix_listK K) (pv 0) (pv 2) (fun _ _ => rfl)) (pv 1)) (pg_sub (pv 0) (pv 2) set_list))
      (pss_one (ps_ret (pv 3)))))), ?_⟩
    refine ⟨_, rfl, l, _, _, _, rfl, rfl, SqL.of hl, rfl, rfl, .inr ⟨_, rfl, ?_⟩⟩
    generalize hpl : (@ite Int (_ = true) (instDecidableEqBool _ true) 1 0) = pl
    have hp : pl = 0 ∨ pl = 1 := by
      rw [← hpl]
      split
      · exact .inr rfl
      · exact .inl rfl
    clear hpl
    have hj : ∃ (j : Nat) (v : Int), pl = (j : Int) ∧ [V.int a, V.int b][j]? = some (.int v) := by
      rcases hp with e | e
      · exact ⟨0, a, e, rfl⟩
      · exact ⟨1, b, e, rfl⟩
    obtain ⟨j, v, rfl, hv⟩ := hj
    refine ⟨_, rfl, _, rfl, l, _, _, _, rfl, rfl, SqL.of hl, atI_nat hv, .inl ⟨_, rfl, ?_⟩⟩
    refine ⟨_, rfl, _, _, rfl, rfl, h0, ?_⟩
    refine ⟨_, rfl, _, rfl, l, _, _, _, rfl, rfl, SqL.of hl, atI_nat hv, ?_⟩
    refine ⟨_, rfl, _, _, rfl, rfl, ⟨h0, h1⟩, ?_⟩
    have hjl : j < 2 := (List.getElem?_eq_some_iff.mp hv).1
    refine ⟨_, rfl, _, rfl, l, _, _, j, rfl, rfl, hl, ?_, ?_⟩
    · exact ixN_nat hjl
    · obtain ⟨c, hc, hcn⟩ := mod_nat (v := v) h0
      refine ⟨_, rfl, ?_⟩
      show Q (.int (v % n)) (upd H l (.lst ([V.int a, V.int b].set j (.int (v / n)))))
      rw [hc]
      have e : ∃ a' b', [V.int a, V.int b].set j (.int (v / n)) = [.int a', .int b'] := by
        rcases hp with e | e
        · exact ⟨_, _, by rw [show j = 0 by omega]; rfl⟩
        · exact ⟨_, _, by rw [show j = 1 by omega]; rfl⟩
      obtain ⟨a', b', e⟩ := e
      rw [e]
      exact k c a' b' hcn
theorem ok_law_stream (T : Txt K mg) : FnOk P w K mg base CX0 1 (d_law_stream.adr K) (fdAt K (d_law_stream.adr K)) ["script", "k"] (spStream K) := by
  refine T.f_law_stream.F.ok0 sc_law_stream (fun vs H Q E h => ?_) (fun cdv A outer s H vs Q E hr h => ?_)
  · obtain ⟨l, n, k, rfl, _⟩ := h
    rfl
  · obtain ⟨a, ns, i, rfl, hS, hi, k⟩ := h
    refine ⟨_, (pss_cons (ps_set (i := 2) sc_law_stream.nd rfl (Or.inl rfl) (pe_ifExp (pt_cmpR op_lt (pv 1) (pe_callB (call_len_seqK K) (by rfl) T.n_len (by decide +kernel) (pa_cons (pv 0) pa_nil)) (nomark _)) (pe_op op_mod (pe_callTy call_int1 (by rfl) T.n_int (by decide +kernel) (pa_cons (pe_ix (ix_listK K) (pv 0) (pv 1) (fun _ _ => rfl)) pa_nil)) (pe_op op_mul pe_int (pe_op op_pow pe_int pe_int))) pe_int))
      (pss_cons (ps_set (i := 3) sc_law_stream.nd rfl (Or.inl rfl) pe_int)
      (pss_cons (ps_for PassesOwn.never rfl (pi_range1 (by rfl) T.n_range (pa_cons pe_int pa_nil)) (pg_name (i := 4) sc_law_stream.nd rfl (Or.inl rfl))
      (pss_cons (ps_set (i := 5) sc_law_stream.nd rfl (Or.inl rfl) (pe_op op_mod (pe_callTy call_int1 (by rfl) T.n_int (by decide +kernel) (pa_cons (pe_op op_add (pe_op op_add (pe_op op_mul (pv 2) pe_int) (pe_op op_mul pe_int (pe_op op_add (pv 1) (pe_op op_mul pe_int (pv 4))))) pe_int) pa_nil)) pe_int))
        (pss_one (ps_set (i := 3) sc_law_stream.nd rfl (Or.inl rfl) (pe_op op_add (pe_op op_mul (pv 3) pe_int) (pe_op op_mod (pe_callTy call_int1 (by rfl) T.n_int (by decide +kernel) (pa_cons (pe_op op_add (pe_op op_pow (pv 5) pe_int) (pe_op op_mul (pv 4) (pv 5))) pa_nil)) pe_int))))))
      (pss_one (ps_ret (pe_lst (pa_cons (pe_op op_mul (pv 2) (pe_callTy call_int1 (by rfl) T.n_int (by decide +kernel) (pa_cons (pe_cmpR op_ge (pv 2) (pe_op op_pow pe_int pe_int) (nomark _)) pa_nil))) (pa_cons (pv 3) pa_nil)))))))), ?_⟩
    refine ⟨_, rfl, _, rfl, a, _, rfl, .inl hS, _, _, rfl, rfl, _, rfl, ?_⟩
    refine ite2 (fun hc => ?_) fun hc => ?_
    · have hi' : i < ns.length := by
        have : ((i : Nat) : Int) < ((ns.map V.int).length : Int) := by simpa using hc
        rw [List.length_map] at this
        omega
      refine ⟨_, rfl, _, rfl, a, _, _, .int ns[i], rfl, rfl, hS, atI_nat (get_map (List.getElem?_eq_getElem hi')), .inl ⟨_, rfl, _, _, rfl, rfl, ⟨by decide, by decide, by decide⟩, _, _, rfl, rfl, .inl ⟨by decide, by decide⟩, _, _, rfl, rfl, (by show (0 : Int) < 2 * 10 ^ 60; decide), ?_⟩⟩
      refine ⟨70, rfl, by decide, by decide, for_range (lo := 0) (n := 70) (fun z σ H' => H' = H ∧ ∃ c m y4 y5, σ = [some (.ref a), some (.int (i : Int)), some (.int c), some (.int m), y4, y5]) ⟨rfl, _, _, _, _, rfl⟩ ?_ ?_⟩
      · rintro q σ H' hq ⟨rfl, c, m, y4, y5, rfl⟩
        refine ⟨_, rfl, _, _, rfl, rfl, .inr ⟨by decide, by decide⟩, _, rfl, _, rfl, _, _, rfl, rfl, .inl ⟨by decide, by decide⟩, _, _, rfl, rfl, _, _, rfl, rfl, .inl ⟨by decide, by decide⟩, _, _, rfl, rfl, _, _, rfl, rfl, .inl ⟨_, rfl, _, _, rfl, rfl, (by show (0 : Int) < 2147483647; decide), ?_⟩⟩
        refine ⟨_, rfl, _, _, rfl, rfl, .inr ⟨by decide, by decide⟩, _, rfl, _, _, rfl, rfl, ⟨by decide, by decide, small_mod (by decide) (by decide)⟩, _, rfl, _, rfl, _, _, rfl, rfl, .inl ⟨by show -(2 ^ 64) < (0 + (q : Int)); omega, by show 0 + (q : Int) < 2 ^ 64; omega⟩, _, _, rfl, rfl, .inl ⟨_, rfl, _, _, rfl, rfl, (by show (0 : Int) < 2147483629; decide), _, _, rfl, rfl, ?_⟩⟩
        exact ⟨rfl, _, _, _, _, rfl⟩
      · rintro σ H' ⟨rfl, c, m, y4, y5, rfl⟩
        refine ⟨_, rfl, _, rfl, _, _, rfl, rfl, ⟨by decide, by decide, by decide⟩, _, _, rfl, rfl, .inr ⟨_, rfl, _, _, rfl, rfl, .inr ⟨?_, ?_⟩, _, rfl, (by show 2 ≤ sizeLine; decide), fun l hl => k l _ _ hl⟩⟩
        · split <;> decide
        · split <;> decide
    · refine ⟨70, rfl, by decide, by decide, for_range (lo := 0) (n := 70) (fun z σ H' => H' = H ∧ ∃ c m y4 y5, σ = [some (.ref a), some (.int (i : Int)), some (.int c), some (.int m), y4, y5]) ⟨rfl, _, _, _, _, rfl⟩ ?_ ?_⟩
      · rintro q σ H' hq ⟨rfl, c, m, y4, y5, rfl⟩
        refine ⟨_, rfl, _, _, rfl, rfl, .inr ⟨by decide, by decide⟩, _, rfl, _, rfl, _, _, rfl, rfl, .inl ⟨by decide, by decide⟩, _, _, rfl, rfl, _, _, rfl, rfl, .inl ⟨by decide, by decide⟩, _, _, rfl, rfl, _, _, rfl, rfl, .inl ⟨_, rfl, _, _, rfl, rfl, (by show (0 : Int) < 2147483647; decide), ?_⟩⟩
        refine ⟨_, rfl, _, _, rfl, rfl, .inr ⟨by decide, by decide⟩, _, rfl, _, _, rfl, rfl, ⟨by decide, by decide, small_mod (by decide) (by decide)⟩, _, rfl, _, rfl, _, _, rfl, rfl, .inl ⟨by show -(2 ^ 64) < (0 + (q : Int)); omega, by show 0 + (q : Int) < 2 ^ 64; omega⟩, _, _, rfl, rfl, .inl ⟨_, rfl, _, _, rfl, rfl, (by show (0 : Int) < 2147483629; decide), _, _, rfl, rfl, ?_⟩⟩
        exact ⟨rfl, _, _, _, _, rfl⟩
      · rintro σ H' ⟨rfl, c, m, y4, y5, rfl⟩
        refine ⟨_, rfl, _, rfl, _, _, rfl, rfl, ⟨by decide, by decide, by decide⟩, _, _, rfl, rfl, .inr ⟨_, rfl, _, _, rfl, rfl, .inr ⟨?_, ?_⟩, _, rfl, (by show 2 ≤ sizeLine; decide), fun l hl => k l _ _ hl⟩⟩
        · split <;> decide
        · split <;> decide
end
end K79
/-! K79F -/
set_option Elab.async false
set_option linter.all false
set_option maxRecDepth 100000
set_option maxHeartbeats 4000000
namespace K79
open PySem PySem.Spec PyProof.Rows L2 My He
/-- the signs of drawn rows -/
def signs : List Nat := [32, 126, 97, 122, 35, 34, 65, 66, 48]
def Row (p : List Nat) : Prop := p.length ≤ 8 ∧ ∀ c ∈ p, c ∈ signs
def Rows (L : List (List Nat)) : Prop := L ≠ [] ∧ L.length ≤ 6 ∧ ∀ p ∈ L, Row p
def spText : Sp := fun vs H Q _ => ∃ l, vs = [.ref l] ∧ StAt H l ∧ ∀ L H', Rows L → But l H H' → StAt H' l → Q (.str (tx (glue 10 L))) H'
section
variable {P : Program} {w : World} {K : PySem.W.Frag} {mg : Str → Option Value} {base : Heap}
theorem StAt.upd {H : Hp} {l : Addr} (a b : Int) : StAt (upd H l (.lst [.int a, .int b])) l := ⟨a, b, upd_same⟩
theorem StAt.of {H H' : Hp} {l : Addr} (h : StAt H l) (e : Same H H') : StAt H' l := by
  obtain ⟨a, b, h⟩ := h
  exact ⟨a, b, e _ _ h⟩
theorem row_sum {p : List (List Nat)} : (p.map List.length).sum = p.flatten.length := by rw [List.length_flatten]
theorem ok_law_text (T : Txt K mg) : FnOk P w K mg base CX0 2 (d_law_text.adr K) (fdAt K (d_law_text.adr K)) ["stream"] spText := by
  refine T.f_law_text.F.ok0 sc_law_text (fun vs H Q E h => ?_) (fun cdv A outer s H vs Q E hr h => ?_)
  · obtain ⟨l, rfl, _⟩ := h
    rfl
  · obtain ⟨l, rfl, st, k⟩ := h
    refine ⟨_, (pss_cons (ps_set (i := 1) sc_law_text.nd rfl (Or.inl rfl) (pe_lst pa_nil))
      (pss_cons (ps_for PassesOwn.never rfl (pi_range1 (by rfl) T.n_range (pa_cons (pe_op op_add pe_int (pe_call (ok_law_pick T) (hr.mono (by decide)) (by rfl) T.m_law_pick T.f_law_pick.F.kp T.f_law_pick.b .nil pass0 (pa_cons (pv 0) (pa_cons pe_int pa_nil)))) pa_nil)) (pg_name (i := 2) sc_law_text.nd rfl (Or.inl rfl))
      (pss_cons (ps_set (i := 3) sc_law_text.nd rfl (Or.inl rfl) (pe_call (ok_law_pick T) (hr.mono (by decide)) (by rfl) T.m_law_pick T.f_law_pick.F.kp T.f_law_pick.b .nil pass0 (pa_cons (pv 0) (pa_cons pe_int pa_nil))))
        (pss_one (ps_expr (pe_bmK K PySem.F.plainAttrs_list PySem.F.slot_list_append PySem.F.type_list_append mt_append (pv 1) (pa_cons (pe_joinK K pe_str (pe_lc (own := [("at", 4)]) (g := (gName 4)) (tt := tYes) (by rfl) sc_law_text.nd (pi_range1 (by rfl) T.n_range (pa_cons (pv 3) pa_nil)) (blkOk_by (own := [("at", 4)]) (N := ["stream", "found", "turn", "many", "at"]) (sc := defScope s_law_text) (by decide +kernel)) (fun _ _ _ _ _ => (pg_name (i := 4) sc_law_text.nd rfl (Or.inl rfl))) (fun _ _ _ _ _ => pts_nil) (fun _ _ _ _ _ => (pe_ix ix_str pe_str (pe_call (ok_law_pick T) (hr.mono (by decide)) (by rfl) T.m_law_pick T.f_law_pick.F.kp T.f_law_pick.b .nil pass0 (pa_cons (pv 0) (pa_cons pe_int pa_nil))) (fun _ _ => rfl))))) pa_nil))))))
      (pss_one (ps_ret (pe_joinK K pe_str (pv 1)))))), ?_⟩
    refine ⟨(by show 0 ≤ sizeLine; decide), fun fd hfd => ?_⟩
    have nfl : fd ≠ l := fun e => by
      obtain ⟨a, b, h⟩ := st
      rw [e, h] at hfd
      cases hfd
    refine ⟨_, rfl, l, 6, rfl, st.of (Same.one H hfd), by decide, by decide, fun c6 a6 b6 hc6 => ?_⟩
    have hc6 : c6 < 6 := by omega
    refine ⟨_, _, rfl, rfl, ((1 + c6 : Nat) : Int), rfl, by omega, by omega, ?_⟩
    refine for_range (lo := 0) (n := 1 + c6) (fun i σ H' => ∃ (L : List (List Nat)) (y2 y3 y4 : Option V), σ = [some (.ref l), some (.ref fd), y2, y3, y4] ∧ StAt H' l ∧ But l H H' ∧ H' fd = some (.lst (L.map fun p => V.str (tx p))) ∧ L.length = i ∧ ∀ p ∈ L, Row p) ?_ ?_ ?_
    · exact ⟨[], _, _, _, rfl, StAt.upd _ _, (But.of (Same.one H hfd)).put, by rw [upd_ne nfl]; exact upd_same, rfl, fun p hp => nomatch hp⟩
    · rintro i σ H1 hi ⟨L, y2, y3, y4, rfl, st1, b1, hL, hlen, hR⟩
      refine ⟨_, rfl, l, 9, rfl, st1, by decide, by decide, fun m9 a9 b9 hm9 => ?_⟩
      have hm9 : m9 < 9 := by omega
      refine ⟨_, rfl, .inl ⟨rfl, _, SqL.of (by rw [upd_ne nfl]; exact hL)⟩, ?_⟩
      refine ⟨⟨_, rfl⟩, _, rfl, _, rfl, by omega, by omega, fun D hD => ?_⟩
      have nDl : D ≠ l := fun e => by
        rw [e, upd_same] at hD
        cases hD
      have nDf : fd ≠ D := fun e => by
        rw [← e, upd_ne nfl, hL] at hD
        cases hD
      refine lc_range (lo := 0) (n := m9) (fun j H' => ∃ p : List Nat, StAt H' l ∧ But l (upd H1 l (.lst [.int a9, .int b9])) H' ∧ H' D = some (.lst (p.map fun c => V.str (tx [c]))) ∧ p.length = j ∧ ∀ c ∈ p, c ∈ signs) ?_ ?_ ?_
      · exact ⟨[], (StAt.upd a9 b9).of (Same.one _ hD), But.of (Same.one _ hD), upd_same, rfl, fun c h => nomatch h⟩
      · rintro j H3 hj ⟨p, st3, b3, hp, hpl, hpm⟩
        refine ⟨rfl, ?_⟩
        refine ⟨_, rfl, l, 9, rfl, st3, by decide, by decide, fun c a b hc => ?_⟩
        have hc' : c < signs.length := by
          have : signs.length = 9 := rfl
          omega
        refine ⟨tx signs, _, signs[c], rfl, rfl, (by decide), atI_nat (List.getElem?_eq_getElem hc'), ?_⟩
        refine ⟨_, by rw [upd_ne nDl]; exact hp, ?_, p ++ [signs[c]], ?_, ?_, ?_, ?_, ?_⟩
        · rw [List.length_map, hpl]
          exact Nat.lt_trans hj (Nat.lt_trans hm9 (by decide))
        · obtain ⟨a', b', e⟩ := StAt.upd (H := H3) (l := l) a b
          exact ⟨a', b', by rw [upd_ne nDl.symm]; exact e⟩
        · intro b' o h n
          rw [upd_ne (ne_of_none h hD)]
          exact b3.put b' o h n
        · rw [upd_same, List.map_append]
          rfl
        · rw [List.length_append, hpl]
          rfl
        · intro q hq
          rcases List.mem_append.mp hq with hq | hq
          · exact hpm q hq
          · rw [List.mem_singleton.mp hq]
            exact List.getElem_mem hc'
      · rintro H3 ⟨p, st3, b3, hp, hpl, hpm⟩
        have hp2 : (p.map fun c => V.str (tx [c])) = ((p.map fun c => [c]).map tx).map V.str := by
          rw [List.map_map, List.map_map]
          rfl
        refine ⟨tx [], D, (p.map fun c => [c]).map tx, rfl, rfl, .inl (SqL.of (by rw [hp, hp2])), ?_, ?_⟩
        · refine Nat.le_trans (Nat.add_le_add (sum_le (b := 1) fun q hq => ?_) (Nat.le_refl _)) ?_
          · obtain ⟨c, _, rfl⟩ := List.mem_map.mp hq
            exact Nat.le_refl _
          · rw [List.length_map, List.length_map, List.length_map, hpl, len_tx]
            simp
            omega
        · have hjoin : Txt.join (tx []) ((p.map fun c => [c]).map tx) = tx p := by
            rw [join_nil_eq, flat_sing]
          rw [hjoin]
          have hL3 : H3 fd = some (.lst (L.map fun p => V.str (tx p))) := b3 _ _ (by rw [upd_ne nfl]; exact hL) nfl
          refine ⟨fd, _, _, rfl, rfl, hL3, ?_, L ++ [p], _, _, _, rfl, ?_, ?_, ?_, ?_, ?_⟩
          · rw [List.length_map, hlen]
            exact Nat.lt_trans hi (Nat.lt_of_lt_of_le (Nat.add_lt_add_left hc6 1) (by decide))
          · obtain ⟨a', b', e⟩ := st3
            exact ⟨a', b', by rw [upd_ne nfl.symm]; exact e⟩
          · intro q o h n
            have nq : q ≠ fd := ne_of_none h hfd
            rw [upd_ne nq]
            exact b3 q o (by rw [upd_ne n]; exact b1 q o h n) n
          · rw [upd_same, List.map_append]
            rfl
          · rw [List.length_append, hlen]
            rfl
          · intro q hq
            rcases List.mem_append.mp hq with hq | hq
            · exact hR q hq
            · rw [List.mem_singleton.mp hq]
              exact ⟨by omega, hpm⟩
    · rintro σ H1 ⟨L, y2, y3, y4, rfl, st1, b1, hL, hlen, hR⟩
      refine ⟨⟨_, rfl⟩, _, rfl, tx [10], fd, L.map tx, rfl, rfl, .inl ?_, ?_, ?_⟩
      · rw [List.map_map]
        exact SqL.of hL
      · refine Nat.le_trans (Nat.add_le_add (sum_le (b := 8) fun q hq => (hR q hq).1) (Nat.le_refl _)) ?_
        rw [List.length_map, hlen, len_tx]
        simp
        omega
      · rw [join_eq]
        exact k L H1 ⟨fun e => by rw [e] at hlen; simp at hlen; omega, by omega, hR⟩ b1 st1
end
end K79
/-! K79G -/
set_option Elab.async false
set_option linter.all false
set_option maxRecDepth 100000
set_option maxHeartbeats 4000000
namespace K79
open PySem PySem.Spec PyProof.Rows L2 My He
def spNumber : Sp := fun vs H Q _ => ∃ l, vs = [.str (tx l)] ∧ l.length ≤ 1000000 ∧ ∀ H', Same H H' → Q (.int (csum l)) H'
def spRows (K : PySem.W.Frag) : Sp := fun vs H Q _ => ∃ l, vs = [.str (tx l)] ∧ l.length ≤ 1000000 ∧ ∀ p xs H', Same H H' → H p = none → H' p = some (.lst xs) → DpAll K H' xs (prs (nums l)) → Q (.ref p) H'
def spFirst : Sp := fun vs H Q _ => ∃ l m, vs = [.str (tx l), .str (tx m)] ∧ l.length ≤ 1000000 ∧ m.length ≤ 1000000 ∧ ∀ H', Same H H' → Q (optV (firstD (nums l) (nums m) 0)) H'
section
variable {P : Program} {w : World} {K : PySem.W.Frag} {mg : Str → Option Value} {base : Heap}
theorem ok_law_number (T : Txt K mg) : FnOk P w K mg base CX0 1 (d_law_number.adr K) (fdAt K (d_law_number.adr K)) ["signs"] spNumber := by
  refine T.f_law_number.F.ok0 sc_law_number (fun vs H Q E h => ?_) (fun cdv A outer s H vs Q E hr h => ?_)
  · obtain ⟨l, rfl, _⟩ := h
    rfl
  · obtain ⟨l, rfl, hl, k⟩ := h
    refine ⟨_, (pss_cons (ps_set (i := 1) sc_law_number.nd rfl (Or.inl rfl) pe_int)
      (pss_cons (ps_for PassesOwn.never rfl (pi_enumT (by rfl) T.n_enumerate (pa_cons (pv 0) pa_nil)) (pg_tupK K rfl (pgs_cons (pg_name (i := 2) sc_law_number.nd rfl (Or.inl rfl)) (pgs_cons (pg_name (i := 3) sc_law_number.nd rfl (Or.inl rfl)) pgs_nil)))
      (pss_one (ps_set (i := 1) sc_law_number.nd rfl (Or.inl rfl) (pe_op op_mod (pe_callTy call_int1 (by rfl) T.n_int (by decide +kernel) (pa_cons (pe_op op_add (pv 1) (pe_op op_mul (pe_op op_add (pv 2) pe_int) (pe_callB call_ord (by rfl) T.n_ord (by decide +kernel) (pa_cons (pv 3) pa_nil)))) pa_nil)) pe_int))))
      (pss_one (ps_ret (pv 1))))), ?_⟩
    refine ⟨_, rfl, tx l, rfl, ?_⟩
    refine for_it walk_enumT (fun i σ H' => Same H H' ∧ ∃ y2 y3, σ = [some (.str (tx l)), some (.int (((wl 0 l).take i).sum % 99999989)), y2, y3]) ⟨Same.refl _, _, _, rfl⟩ (fun _ _ _ _ _ => trivial) ?_ ?_
    · rintro i x σ H1 H2 hi ⟨s1, y2, y3, rfl⟩ ⟨p, c, rfl, hp, rfl, hc⟩
      have hc' : l[i]? = some c := by simpa using hc
      have hi' : i < l.length := by simpa using hi
      refine ⟨p, _, rfl, SqT.of upd_same, rfl, _, _, rfl, _, _, rfl, rfl, ?_⟩
      refine ⟨_, rfl, _, rfl, _, _, rfl, rfl, _, rfl, ⟨#[c]⟩, rfl, rfl, _, _, rfl, rfl, .inl ⟨by omega, by omega⟩, _, _, rfl, rfl, .inl ⟨_, rfl, _, _, rfl, rfl, (by show (0 : Int) < 99999989; decide), ?_⟩⟩
      refine ⟨Same.new s1 hp, some (.int (i : Int)), some (.str ⟨#[c]⟩), ?_⟩
      rw [take_next (wl_get 0 l i c hc'), List.sum_append]
      have e : ((((wl 0 l).take i).sum % 99999989) + ((i : Int) + 1) * (c : Int)) % 99999989 = (((wl 0 l).take i).sum + [(((0 : Nat) : Int) + (i : Int) + 1) * (c : Int)].sum) % 99999989 := by
        rw [show ((0 : Nat) : Int) + (i : Int) + 1 = (i : Int) + 1 by omega]
        generalize ((i : Int) + 1) * (c : Int) = t
        simp
      rw [← e]
      rfl
    · rintro σ H1 ⟨s1, y2, y3, rfl⟩
      refine ⟨_, rfl, ?_⟩
      rw [List.take_of_length_le (by rw [wl_len]; simp), wl_sum]
      exact k H1 s1
theorem ok_law_rows (T : Txt K mg) : FnOk P w K mg base CX0 2 (d_law_rows.adr K) (fdAt K (d_law_rows.adr K)) ["signs"] (spRows K) := by
  refine T.f_law_rows.F.ok0 sc_law_rows (fun vs H Q E h => ?_) (fun cdv A outer s H vs Q E hr h => ?_)
  · obtain ⟨l, rfl, _⟩ := h
    rfl
  · obtain ⟨l, rfl, hl, k⟩ := h
    refine ⟨_, (pss_one (ps_ret (pe_lc (own := [("row", 1)]) (g := (gName 1)) (tt := tYes) (by rfl) sc_law_rows.nd (pi_listK K (pe_split (pv 0) pe_str)) (blkOk_by (own := [("row", 1)]) (N := ["signs", "row"]) (sc := defScope s_law_rows) (by decide +kernel)) (fun _ _ _ _ _ => (pg_name (i := 1) sc_law_rows.nd rfl (Or.inl rfl))) (fun _ _ _ _ _ => pts_nil) (fun _ _ _ _ _ => (pe_tup (pa_cons (pe_callB call_len_str (by rfl) T.n_len (by decide +kernel) (pa_cons (pv 1) pa_nil)) (pa_cons (pe_call (ok_law_number T) (hr.mono (by decide)) (by rfl) T.m_law_number T.f_law_number.F.kp T.f_law_number.b .nil pass0 (pa_cons (pv 1) pa_nil)) pa_nil))))))), ?_⟩
    refine ⟨_, rfl, ⟨_, rfl⟩, tx l, _, rfl, rfl, rfl, ?_, fun p hp => ?_⟩
    · rw [len_tx]
      exact Nat.le_trans (Nat.add_le_add_right hl 2) (by decide)
    refine ⟨p, rfl, ⟨_, SqL.of upd_same⟩, fun D hD => ?_⟩
    have nDp : p ≠ D := fun e => by
      rw [← e, upd_same] at hD
      cases hD
    have hsp : ∀ H', Same (upd H p (.lst ((Txt.split (tx l) "\n").map V.str))) H' → H' p = some (.lst ((cutAt 10 l).map fun l => V.str (tx l))) := fun H' s => by
      rw [s _ _ upd_same, show (Txt.split (tx l) "\n") = _ from split_eq (tx l) 10 (by decide), List.map_map]
      rfl
    refine lc_map (K := K) (J := Itl K p) (walk_list (K := K) (a := p) (xs := (cutAt 10 l).map fun l => V.str (tx l))) (prs (nums l)) hD (by rw [prs, nums]; simp) ?_ (fun H' s => SqL.of (hsp H' s)) ?_ ?_
    · rw [List.length_map]
      have h2 : (cutAt 10 l).length ≤ l.length + 1 := cut_len l
      have : (2000000 : Nat) < sizeLine := (by decide)
      omega
    · rintro i x d acc H2 H3 Done hi s2 hv ⟨rfl, hxi⟩ done
      obtain ⟨q, hq, rfl⟩ := map_get hxi
      rw [nums_get hq] at hi
      cases hi
      have hqm : q ∈ cutAt 10 l := List.mem_of_getElem? hq
      have hql : q.length ≤ 1000000 := Nat.le_trans (cut_small l q hqm) hl
      refine ⟨rfl, ?_⟩
      refine ⟨_, rfl, tx q, rfl, (by rw [len_tx]; exact Nat.le_trans hql (by decide)), ?_⟩
      refine ⟨_, rfl, q, rfl, hql, fun H4 s4 => ?_⟩
      refine ⟨(by show 2 ≤ sizeLine; decide), fun t ht => ?_⟩
      have n : t ≠ D := fun e => by
        rw [e, s4 _ _ hv] at ht
        cases ht
      refine done _ _ (Same.new s4 ht) (dp_pair' (SqT.of ?_))
      rw [hide_at n, upd_same, len_tx]
      rfl
    · intro H2 vs s2 hv dv
      have hDH : H D = none := by rw [upd_ne nDp.symm] at hD; exact hD
      exact k D vs H2 (Same.trans (Same.trans (Same.one _ hp) s2) (hide_le D H2)) hDH hv (dpAll_same (hide_le D H2) dv)
theorem prs_cut (ns : List (Int × Int)) (i : Nat) : ((prs ns).drop i).take 1 = ((ns.drop i).take 1).map prD := by
  unfold prs
  rw [← List.map_drop, ← List.map_take]
theorem shp_prsL (ns : List (Int × Int)) : Shp 2 (.list (ns.map prD)) := by
  refine shp_lst fun d hd => ?_
  obtain ⟨n, _, rfl⟩ := List.mem_map.mp hd
  exact shp_prD n
theorem eqv_prsL (ns ms : List (Int × Int)) : PyData.eqv (.list (ns.map prD)) (.list (ms.map prD)) = decide (ns = ms) := eqvAll_map (f := prD) eqv_pair ns ms
theorem firstD_take {ns ms : List (Int × Int)} {i : Nat} (h : i < max ns.length ms.length) : firstD (ns.drop i) (ms.drop i) i = if (ns.drop i).take 1 = (ms.drop i).take 1 then firstD (ns.drop (i + 1)) (ms.drop (i + 1)) (i + 1) else some i := by
  rw [← List.drop_drop, ← List.drop_drop]
  have hne : ns.drop i ≠ [] ∨ ms.drop i ≠ [] := by
    by_cases q : i < ns.length
    · exact .inl fun e => by
        have := congrArg List.length e
        rw [List.length_drop] at this
        simp at this
        omega
    · exact .inr fun e => by
        have := congrArg List.length e
        rw [List.length_drop] at this
        simp at this
        omega
  generalize ns.drop i = A at *
  generalize ms.drop i = B at *
  cases A with
  | nil =>
    cases B with
    | nil => rcases hne with h | h <;> exact absurd rfl h
    | cons b B => rfl
  | cons a A =>
    cases B with
    | nil => rfl
    | cons b B =>
      show (if a = b then firstD A B (i + 1) else some i) = _
      by_cases e : a = b
      · subst e
        rw [if_pos rfl, if_pos (show List.take 1 (a :: A) = List.take 1 (a :: B) from rfl)]
        rfl
      · rw [if_neg e, if_neg]
        intro q
        exact e (List.cons.inj q).1
theorem ok_law_first (T : Txt K mg) : FnOk P w K mg base CX0 3 (d_law_first.adr K) (fdAt K (d_law_first.adr K)) ["one", "other"] spFirst := by
  refine T.f_law_first.F.ok0 sc_law_first (fun vs H Q E h => ?_) (fun cdv A outer s H vs Q E hr h => ?_)
  · obtain ⟨l, m, rfl, _⟩ := h
    rfl
  · obtain ⟨l, m, rfl, hl, hm, k⟩ := h
    refine ⟨_, (pss_cons (ps_par (i := 2) (j := 3) (by rfl) sc_law_first.nd rfl rfl (by decide) rfl rfl (pa_cons (pe_call (ok_law_rows T) (hr.mono (by decide)) (by rfl) T.m_law_rows T.f_law_rows.F.kp T.f_law_rows.b .nil pass0 (pa_cons (pv 0) pa_nil)) (pa_cons (pe_call (ok_law_rows T) (hr.mono (by decide)) (by rfl) T.m_law_rows T.f_law_rows.F.kp T.f_law_rows.b .nil pass0 (pa_cons (pv 1) pa_nil)) pa_nil)) (by rfl))
      (pss_cons (ps_for PassesOwn.never rfl (pi_range1 (by rfl) T.n_range (pa_cons (pe_callB (call_max2 rfl) (by rfl) T.n_max (by decide +kernel) (pa_cons (pe_callB (call_len_seqK K) (by rfl) T.n_len (by decide +kernel) (pa_cons (pv 2) pa_nil)) (pa_cons (pe_callB (call_len_seqK K) (by rfl) T.n_len (by decide +kernel) (pa_cons (pv 3) pa_nil)) pa_nil))) pa_nil)) (pg_name (i := 4) sc_law_first.nd rfl (Or.inl rfl))
      (pss_one (ps_if (pt_cmpR (op_neDK K hr.units) (pe_slice (sl_listK K) (pv 2) (po_some (pv 4)) (po_some (pe_op op_add (pv 4) pe_int))) (pe_slice (sl_listK K) (pv 3) (po_some (pv 4)) (po_some (pe_op op_add (pv 4) pe_int))) (nomark _))
        (pss_one (ps_ret (pv 4)))
        pss_nil)))
      (pss_one (ps_ret pe_non)))), ?_⟩
    refine ⟨_, rfl, l, rfl, hl, fun p xs H1 s1 np hp dp => ?_⟩
    refine ⟨_, rfl, m, rfl, hm, fun q ys H2 s2 nq hq dq => ?_⟩
    refine ⟨_, _, rfl, ?_⟩
    have hp2 := s2 _ _ hp
    have dp2 := dpAll_same s2 dp
    refine ⟨_, rfl, p, _, rfl, .inl (SqL.of hp2), _, rfl, q, _, rfl, .inl (SqL.of hq), _, _, rfl, ?_⟩
    have lx : xs.length = (nums l).length := by rw [dpAll_len dp, prs_len]
    have ly : ys.length = (nums m).length := by rw [dpAll_len dq, prs_len]
    have bx : (nums l).length ≤ 1000001 := by rw [nums_len]; exact Nat.le_trans (cut_len l) (by omega)
    have bz : (nums m).length ≤ 1000001 := by rw [nums_len]; exact Nat.le_trans (cut_len m) (by omega)
    have emax : (if (ys.length : Int) > (xs.length : Int) then (ys.length : Int) else (xs.length : Int)) = ((max (nums l).length (nums m).length : Nat) : Int) := by
      rw [lx, ly]
      split <;> omega
    rw [emax]
    refine ⟨_, rfl, by omega, by omega, ?_⟩
    rw [Int.toNat_natCast]
    refine for_range (lo := 0) (n := max (nums l).length (nums m).length) (fun i σ H' => Same H2 H' ∧ (∃ y4 : Option V, σ = [some (.str (tx l)), some (.str (tx m)), some (.ref p), some (.ref q), y4]) ∧ firstD (nums l) (nums m) 0 = firstD ((nums l).drop i) ((nums m).drop i) i) ⟨Same.refl _, ⟨_, rfl⟩, rfl⟩ ?_ ?_
    · rintro i σ H3 hi ⟨s3, ⟨y4, rfl⟩, hf⟩
      refine ⟨_, rfl, _, rfl, _, rfl, _, rfl, _, _, rfl, rfl, _, rfl, p, xs, rfl, SqL.of (s3 _ _ hp2), fun u hu => ?_⟩
      refine ⟨_, rfl, _, rfl, _, rfl, _, rfl, _, _, rfl, rfl, _, rfl, q, ys, rfl, SqL.of (Same.one _ hu _ _ (s3 _ _ hq)), fun v hv => ?_⟩
      have ecut : ∀ zs : List V, cutV zs (some (0 + (i : Int))) (some (0 + (i : Int) + 1)) = (zs.drop i).take 1 := fun zs => by
        rw [Int.zero_add, show (i : Int) + 1 = ((i + 1 : Nat) : Int) by omega, cutV_mid, show i + 1 - i = 1 by omega]
      have su : Same H3 (upd H3 u (.lst (cutV xs (some (0 + (i : Int))) (some (0 + (i : Int) + 1))))) := Same.one _ hu
      have sF := Same.new (o := .lst (cutV ys (some (0 + (i : Int))) (some (0 + (i : Int) + 1)))) su hv
      have nuv : u ≠ v := fun e => by
        rw [← e, upd_same] at hv
        cases hv
      have d1 : Dp K (upd (upd H3 u (.lst (cutV xs (some (0 + (i : Int))) (some (0 + (i : Int) + 1))))) v (.lst (cutV ys (some (0 + (i : Int))) (some (0 + (i : Int) + 1))))) (.ref u) (.list ((((nums l).drop i).take 1).map prD)) := by
        rw [← prs_cut]
        refine .lst (SqL.of (by rw [upd_ne nuv, upd_same])) ?_
        have z := dpAll_take 1 (dpAll_drop i (dpAll_same (Same.trans s3 sF) dp2))
        rw [← ecut xs] at z
        exact z
      have d2 : Dp K (upd (upd H3 u (.lst (cutV xs (some (0 + (i : Int))) (some (0 + (i : Int) + 1))))) v (.lst (cutV ys (some (0 + (i : Int))) (some (0 + (i : Int) + 1))))) (.ref v) (.list ((((nums m).drop i).take 1).map prD)) := by
        rw [← prs_cut]
        refine .lst (SqL.of upd_same) ?_
        have z := dpAll_take 1 (dpAll_drop i (dpAll_same (Same.trans s3 sF) dq))
        rw [← ecut ys] at z
        exact z
      refine ⟨_, _, d1, d2, (shp_prsL _).shaped, (shp_prsL _).shaped, ?_⟩
      rw [eqv_prsL]
      refine ⟨_, rfl, ?_⟩
      rw [firstD_take hi] at hf
      by_cases e : ((nums l).drop i).take 1 = ((nums m).drop i).take 1
      · refine iteND1 e ?_
        rw [if_pos e] at hf
        exact ⟨Same.trans s3 sF, ⟨_, rfl⟩, hf⟩
      · refine iteND0 e ?_
        rw [if_neg e] at hf
        rw [hf] at k
        have := k _ (Same.trans s1 (Same.trans s2 (Same.trans s3 sF)))
        rw [show optV (some i) = V.int (0 + (i : Int)) by rw [Int.zero_add]; rfl] at this
        exact ⟨_, rfl, this⟩
    · rintro σ H3 ⟨s3, ⟨y4, rfl⟩, hf⟩
      rw [List.drop_of_length_le (l := nums l) (by omega), List.drop_of_length_le (l := nums m) (by omega)] at hf
      rw [hf] at k
      exact k H3 (Same.trans s1 (Same.trans s2 s3))
end
end K79
/-! K79H -/
set_option Elab.async false
set_option linter.all false
set_option maxRecDepth 100000
set_option maxHeartbeats 4000000
namespace K79
open PySem PySem.Spec PyProof.Rows L2 My He
def rowOf (way spot far : Nat) (row : List Nat) : List Nat :=
  if way = 0 then row.take spot ++ [120] ++ row.drop (spot + 1)
  else if way = 1 ∧ spot < far ∧ far < row.length then row.take spot ++ [row.getD far 0] ++ (row.drop (spot + 1)).take (far - (spot + 1)) ++ ([row.getD spot 0] ++ row.drop (far + 1)) else row
def piece (way spot : Nat) (r : List Nat) : List (List Nat) := if way = 2 then [[[], [110, 101, 119]].getD (spot % 2) [], r] else if way = 3 then [] else [r]
def Made (L : List (List Nat)) (m : List Nat) : Prop := ∃ (way i spot far : Nat) (row sfx : List Nat), L[i]? = some row ∧ spot ≤ row.length ∧ far ≤ row.length ∧ sfx ∈ [[], [10], [32]] ∧
  ((way < 5 ∧ m = glue 10 (L.take i ++ piece way spot (rowOf way spot far row) ++ L.drop (i + 1)) ++ sfx) ∨ m = glue 10 L)
def spChanged : Sp := fun vs H Q _ => ∃ l L, vs = [.ref l, .str (tx (glue 10 L))] ∧ Rows L ∧ StAt H l ∧ ∀ m H', But l H H' → StAt H' l → Made L m → Q (.str (tx m)) H'
section
variable {P : Program} {w : World} {K : PySem.W.Frag} {mg : Str → Option Value} {base : Heap}
theorem no10 {p : List Nat} (h : Row p) : 10 ∉ p := fun e => by
  have := h.2 _ e
  revert this
  decide
theorem glue_le {L : List (List Nat)} {b : Nat} (h : ∀ p ∈ L, p.length ≤ b) : (glue 10 L).length ≤ L.length * (b + 1) := by
  have e := glue_len 10 L
  have q : (L.map fun p => p.length + 1).sum ≤ L.length * (b + 1) := by
    clear e
    induction L with
    | nil => exact Nat.zero_le _
    | cons p r ih =>
      have h1 := h p (List.mem_cons_self ..)
      have h2 := ih fun q hq => h q (List.mem_cons_of_mem _ hq)
      rw [List.map_cons, List.sum_cons, List.length_cons, Nat.succ_mul]
      omega
  split at e
  · rename_i hL
    rw [hL]
    exact Nat.zero_le _
  · omega
theorem StAt.set {H : Hp} {l p : Addr} {o : HO} (h : StAt H l) (hp : H p = none) : StAt (L2.upd H p o) l := h.of (Same.one H hp)
theorem six {H : Hp} {p1 p2 p3 p4 p5 p6 p7 p8 : Addr} {o1 o2 o3 o4 o5 o6 o7 o8 : HO} (h1 : H p1 = none) (h2 : L2.upd H p1 o1 p2 = none) (h3 : L2.upd (L2.upd H p1 o1) p2 o2 p3 = none) (h4 : L2.upd (L2.upd (L2.upd H p1 o1) p2 o2) p3 o3 p4 = none)
    (h5 : L2.upd (L2.upd (L2.upd (L2.upd H p1 o1) p2 o2) p3 o3) p4 o4 p5 = none) (h6 : L2.upd (L2.upd (L2.upd (L2.upd (L2.upd H p1 o1) p2 o2) p3 o3) p4 o4) p5 o5 p6 = none) (h7 : L2.upd (L2.upd (L2.upd (L2.upd (L2.upd (L2.upd H p1 o1) p2 o2) p3 o3) p4 o4) p5 o5) p6 o6 p7 = none)
    (h8 : L2.upd (L2.upd (L2.upd (L2.upd (L2.upd (L2.upd (L2.upd H p1 o1) p2 o2) p3 o3) p4 o4) p5 o5) p6 o6) p7 o7 p8 = none) :
    Same H (L2.upd (L2.upd (L2.upd (L2.upd (L2.upd (L2.upd (L2.upd (L2.upd H p1 o1) p2 o2) p3 o3) p4 o4) p5 o5) p6 o6) p7 o7) p8 o8) ∧
    L2.upd (L2.upd (L2.upd (L2.upd (L2.upd (L2.upd (L2.upd (L2.upd H p1 o1) p2 o2) p3 o3) p4 o4) p5 o5) p6 o6) p7 o7) p8 o8 p1 = some o1 ∧
    L2.upd (L2.upd (L2.upd (L2.upd (L2.upd (L2.upd (L2.upd (L2.upd H p1 o1) p2 o2) p3 o3) p4 o4) p5 o5) p6 o6) p7 o7) p8 o8 p2 = some o2 ∧
    L2.upd (L2.upd (L2.upd (L2.upd (L2.upd (L2.upd (L2.upd (L2.upd H p1 o1) p2 o2) p3 o3) p4 o4) p5 o5) p6 o6) p7 o7) p8 o8 p4 = some o4 ∧
    L2.upd (L2.upd (L2.upd (L2.upd (L2.upd (L2.upd (L2.upd (L2.upd H p1 o1) p2 o2) p3 o3) p4 o4) p5 o5) p6 o6) p7 o7) p8 o8 p5 = some o5 ∧
    L2.upd (L2.upd (L2.upd (L2.upd (L2.upd (L2.upd (L2.upd (L2.upd H p1 o1) p2 o2) p3 o3) p4 o4) p5 o5) p6 o6) p7 o7) p8 o8 p6 = some o6 ∧
    L2.upd (L2.upd (L2.upd (L2.upd (L2.upd (L2.upd (L2.upd (L2.upd H p1 o1) p2 o2) p3 o3) p4 o4) p5 o5) p6 o6) p7 o7) p8 o8 p7 = some o7 ∧
    L2.upd (L2.upd (L2.upd (L2.upd (L2.upd (L2.upd (L2.upd (L2.upd H p1 o1) p2 o2) p3 o3) p4 o4) p5 o5) p6 o6) p7 o7) p8 o8 p8 = some o8 := by
  have s1 := Same.one H (o := o1) h1
  have s2 := Same.one _ (o := o2) h2
  have s3 := Same.one _ (o := o3) h3
  have s4 := Same.one _ (o := o4) h4
  have s5 := Same.one _ (o := o5) h5
  have s6 := Same.one _ (o := o6) h6
  have s7 := Same.one _ (o := o7) h7
  have s8 := Same.one _ (o := o8) h8
  have z7 := s8 _ _ (upd_same (a := p7) (o := o7))
  have z6 := s8 _ _ (s7 _ _ (upd_same (a := p6) (o := o6)))
  have z5 := s8 _ _ (s7 _ _ (s6 _ _ (upd_same (a := p5) (o := o5))))
  have z4 := s8 _ _ (s7 _ _ (s6 _ _ (s5 _ _ (upd_same (a := p4) (o := o4)))))
  have z2 := s8 _ _ (s7 _ _ (s6 _ _ (s5 _ _ (s4 _ _ (s3 _ _ (upd_same (a := p2) (o := o2)))))))
  have z1 := s8 _ _ (s7 _ _ (s6 _ _ (s5 _ _ (s4 _ _ (s3 _ _ (s2 _ _ (upd_same (a := p1) (o := o1))))))))
  exact ⟨Same.trans s1 (Same.trans s2 (Same.trans s3 (Same.trans s4 (Same.trans s5 (Same.trans s6 (Same.trans s7 s8)))))), z1, z2, z4, z5, z6, z7, upd_same⟩
theorem pick6 {F : Hp} {p1 p2 p4 p5 p6 p7 : Addr} {way spot : Nat} {r nw : List Nat} (hw : way < 6) (hn : [([] : List Nat), [110, 101, 119]][spot % 2]? = some nw) (h1 : F p1 = some (.lst [.str (tx r)])) (h2 : F p2 = some (.lst [.str (tx r)]))
    (h4 : F p4 = some (.lst [.str (tx nw), .str (tx r)])) (h5 : F p5 = some (.lst [])) (h6 : F p6 = some (.lst [.str (tx r)])) (h7 : F p7 = some (.lst [.str (tx r)])) :
    ∃ pX, [V.ref p1, .ref p2, .ref p4, .ref p5, .ref p6, .ref p7][way]? = some (.ref pX) ∧ F pX = some (.lst ((piece way spot r).map fun p => V.str (tx p))) := by
  have e : [([] : List Nat), [110, 101, 119]].getD (spot % 2) [] = nw := by rw [List.getD_eq_getElem?_getD, hn]; rfl
  have hc : way = 0 ∨ way = 1 ∨ way = 2 ∨ way = 3 ∨ way = 4 ∨ way = 5 := by omega
  rcases hc with rfl | rfl | rfl | rfl | rfl | rfl
  · exact ⟨p1, rfl, h1⟩
  · exact ⟨p2, rfl, h2⟩
  · refine ⟨p4, rfl, ?_⟩
    unfold piece
    rw [if_pos rfl, e]
    exact h4
  · exact ⟨p5, rfl, h5⟩
  · exact ⟨p6, rfl, h6⟩
  · exact ⟨p7, rfl, h7⟩
theorem piece_len (way spot : Nat) (r : List Nat) : (piece way spot r).length ≤ 2 := by
  unfold piece
  split
  · exact Nat.le_refl _
  · split
    · exact Nat.zero_le _
    · exact Nat.le_succ _
theorem piece_le {way spot : Nat} {r : List Nat} (h : r.length ≤ 9) : ∀ p ∈ piece way spot r, p.length ≤ 9 := by
  intro p hp
  unfold piece at hp
  split at hp
  · rcases List.mem_cons.mp hp with e | hp
    · rw [e]
      have : spot % 2 < 2 := Nat.mod_lt _ (by decide)
      have : spot % 2 = 0 ∨ spot % 2 = 1 := by omega
      rcases this with q | q
      · rw [q]; decide
      · rw [q]; decide
    · rw [List.mem_singleton.mp hp]
      exact h
  · split at hp
    · cases hp
    · rw [List.mem_singleton.mp hp]
      exact h
theorem ok_law_changed (T : Txt K mg) : FnOk P w K mg base CX0 2 (d_law_changed.adr K) (fdAt K (d_law_changed.adr K)) ["stream", "signs"] spChanged := by
  refine T.f_law_changed.F.ok0 sc_law_changed (fun vs H Q E h => ?_) (fun cdv A outer s H vs Q E hr h => ?_)
  · obtain ⟨l, L, rfl, _⟩ := h
    rfl
  · obtain ⟨l, L, rfl, hL, st, k⟩ := h
    have hg : (glue 10 L).length ≤ 54 := Nat.le_trans (glue_le fun p hp => (hL.2.2 p hp).1) (by have := hL.2.1; omega)
    have hcut : cutAt 10 (glue 10 L) = L := cutAt_glue 10 L hL.1 fun p hp => no10 (hL.2.2 p hp)
    refine ⟨_, (pss_cons (ps_par (i := 2) (j := 3) (by rfl) sc_law_changed.nd rfl rfl (by decide) rfl rfl (pa_cons (pe_split (pv 1) pe_str) (pa_cons (pe_call (ok_law_pick T) (hr.mono (by decide)) (by rfl) T.m_law_pick T.f_law_pick.F.kp T.f_law_pick.b .nil pass0 (pa_cons (pv 0) (pa_cons pe_int pa_nil))) pa_nil)) (by rfl))
      (pss_cons (ps_set (i := 4) sc_law_changed.nd rfl (Or.inl rfl) (pe_call (ok_law_pick T) (hr.mono (by decide)) (by rfl) T.m_law_pick T.f_law_pick.F.kp T.f_law_pick.b .nil pass0 (pa_cons (pv 0) (pa_cons (pe_callB (call_len_seqK K) (by rfl) T.n_len (by decide +kernel) (pa_cons (pv 2) pa_nil)) pa_nil))))
      (pss_cons (ps_set (i := 5) sc_law_changed.nd rfl (Or.inl rfl) (pe_ix (ix_listK K) (pv 2) (pv 4) (fun _ _ => rfl)))
      (pss_cons (ps_par (i := 6) (j := 7) (by rfl) sc_law_changed.nd rfl rfl (by decide) rfl rfl (pa_cons (pe_call (ok_law_pick T) (hr.mono (by decide)) (by rfl) T.m_law_pick T.f_law_pick.F.kp T.f_law_pick.b .nil pass0 (pa_cons (pv 0) (pa_cons (pe_op op_add (pe_callB call_len_str (by rfl) T.n_len (by decide +kernel) (pa_cons (pv 5) pa_nil)) pe_int) pa_nil))) (pa_cons (pe_call (ok_law_pick T) (hr.mono (by decide)) (by rfl) T.m_law_pick T.f_law_pick.F.kp T.f_law_pick.b .nil pass0 (pa_cons (pv 0) (pa_cons (pe_op op_add (pe_callB call_len_str (by rfl) T.n_len (by decide +kernel) (pa_cons (pv 5) pa_nil)) pe_int) pa_nil))) pa_nil)) (by rfl))
      (pss_cons (ps_if (pt_cmpR op_eq (pv 3) pe_int (nomark _))
      (pss_one (ps_set (i := 5) sc_law_changed.nd rfl (Or.inl rfl) (pe_op op_add_str (pe_op op_add_str (pe_slice sl_str (pv 5) po_none (po_some (pv 6))) pe_str) (pe_slice sl_str (pv 5) (po_some (pe_op op_add (pv 6) pe_int)) po_none))))
      pss_nil)
      (pss_cons (ps_if (PW.pt (pw_and (pt_cmpR op_eq (pv 3) pe_int (nomark _)) (pw_and1 (pt_chain op_lt op_lt (pv 6) (pv 7) (pe_callB call_len_str (by rfl) T.n_len (by decide +kernel) (pa_cons (pv 5) pa_nil))))))
      (pss_cons (ps_par (i := 8) (j := 9) (by rfl) sc_law_changed.nd rfl rfl (by decide) rfl rfl (pa_cons (pe_op op_add_str (pe_slice sl_str (pv 5) po_none (po_some (pv 6))) (pe_ix ix_str (pv 5) (pv 7) (fun _ _ => rfl))) (pa_cons (pe_op op_add_str (pe_ix ix_str (pv 5) (pv 6) (fun _ _ => rfl)) (pe_slice sl_str (pv 5) (po_some (pe_op op_add (pv 7) pe_int)) po_none)) pa_nil)) (by rfl))
        (pss_one (ps_set (i := 5) sc_law_changed.nd rfl (Or.inl rfl) (pe_op op_add_str (pe_op op_add_str (pv 8) (pe_slice sl_str (pv 5) (po_some (pe_op op_add (pv 6) pe_int)) (po_some (pv 7)))) (pv 9)))))
      pss_nil)
      (pss_cons (ps_set (i := 10) sc_law_changed.nd rfl (Or.inl rfl) (pe_ix (ix_listK K) (pe_lst (pa_cons (pe_lst (pa_cons (pv 5) pa_nil)) (pa_cons (pe_lst (pa_cons (pv 5) pa_nil)) (pa_cons (pe_lst (pa_cons (pe_ix (ix_listK K) (pe_lst (pa_cons pe_str (pa_cons pe_str pa_nil))) (pe_op op_mod (pe_callTy call_int1 (by rfl) T.n_int (by decide +kernel) (pa_cons (pv 6) pa_nil)) pe_int) (fun _ _ => rfl)) (pa_cons (pv 5) pa_nil))) (pa_cons (pe_lst pa_nil) (pa_cons (pe_lst (pa_cons (pv 5) pa_nil)) (pa_cons (pe_lst (pa_cons (pv 5) pa_nil)) pa_nil))))))) (pv 3) (fun _ _ => rfl)))
      (pss_cons (ps_set (i := 2) sc_law_changed.nd rfl (Or.inl rfl) (pe_op op_cat (pe_op op_cat (pe_slice (sl_listK K) (pv 2) po_none (po_some (pv 4))) (pv 10)) (pe_slice (sl_listK K) (pv 2) (po_some (pe_op op_add (pv 4) pe_int)) po_none)))
      (pss_one (ps_ret (pe_ifExp (pt_cmpR op_lt (pv 3) pe_int (nomark _)) (pe_op op_add_str (pe_joinK K pe_str (pv 2)) (pe_ix (ix_listK K) (pe_lst (pa_cons pe_str (pa_cons pe_str (pa_cons pe_str pa_nil)))) (pe_call (ok_law_pick T) (hr.mono (by decide)) (by rfl) T.m_law_pick T.f_law_pick.F.kp T.f_law_pick.b .nil pass0 (pa_cons (pv 0) (pa_cons pe_int pa_nil))) (fun _ _ => rfl))) (pv 1)))))))))))), ?_⟩
    refine ⟨_, rfl, ⟨_, rfl⟩, tx (glue 10 L), _, rfl, rfl, rfl, ?_, fun pp hpp => ?_⟩
    · rw [len_tx]
      exact Nat.le_trans (Nat.add_le_add_right hg 2) (by decide)
    have npl : pp ≠ l := fun e => by
      obtain ⟨a, b, h⟩ := st
      rw [e, h] at hpp
      cases hpp
    have hs0 : ((Txt.split (tx (glue 10 L)) "\n").map V.str) = L.map fun p => V.str (tx p) := by
      rw [show (Txt.split (tx (glue 10 L)) "\n") = _ from split_eq (tx (glue 10 L)) 10 (by decide), List.map_map, sg_tx, hcut]
      rfl
    rw [hs0]
    refine ⟨_, rfl, l, 6, rfl, st.set hpp, by decide, by decide, fun way a1 b1 hway => ?_⟩
    have hway : way < 6 := by omega
    refine ⟨_, _, rfl, ?_⟩
    have hL1 : ∀ a b : Int, L2.upd (L2.upd H pp (.lst (L.map fun p => V.str (tx p)))) l (.lst [.int a, .int b]) pp = some (.lst (L.map fun p => V.str (tx p))) := fun a b => by rw [upd_ne npl, upd_same]
    have hLpos : 0 < L.length := List.length_pos_iff.mpr hL.1
    refine ⟨_, rfl, _, rfl, pp, _, rfl, .inl (SqL.of (hL1 _ _)), l, _, rfl, StAt.upd _ _, ?_, ?_, fun i a2 b2 hi => ?_⟩
    · rw [List.length_map]
      omega
    · rw [List.length_map]
      have := hL.2.1
      omega
    have hi' : i < L.length := by
      rw [List.length_map] at hi
      omega
    obtain ⟨row, hrow⟩ := get_some hi'
    have hR := hL.2.2 row (List.mem_of_getElem? hrow)
    rw [upd_upd]
    refine ⟨_, rfl, _, rfl, pp, _, _, .str (tx row), rfl, rfl, SqL.of (hL1 _ _), atI_nat (get_map hrow), ?_⟩
    have hrl : (tx row).length = row.length := len_tx row
    have hr8 := hR.1
    refine ⟨_, rfl, _, rfl, tx row, rfl, (by rw [hrl]; exact Nat.le_trans hr8 (by decide)), _, _, rfl, rfl, l, _, rfl, StAt.upd _ _, ?_, ?_, fun spot a3 b3 hspot => ?_⟩
    · rw [hrl]; omega
    · rw [hrl]; omega
    rw [upd_upd]
    refine ⟨_, rfl, _, rfl, tx row, rfl, (by rw [hrl]; exact Nat.le_trans hr8 (by decide)), _, _, rfl, rfl, l, _, rfl, StAt.upd _ _, ?_, ?_, fun far a4 b4 hfar => ?_⟩
    · rw [hrl]; omega
    · rw [hrl]; omega
    rw [upd_upd]
    rw [hrl] at hspot hfar
    have hspot : spot ≤ row.length := by omega
    have hfar : far ≤ row.length := by omega
    refine ⟨_, _, rfl, ?_⟩
    refine ⟨_, rfl, rfl, _, rfl, ?_⟩
    have prep : ∀ (z : Str) (j : Int), z.length ≤ 1000 → z.length ≤ sizeLine := fun z _ h => Nat.le_trans h (by decide)
    have hz : (tx row).length ≤ sizeLine := by rw [hrl]; exact Nat.le_trans hr8 (by decide)
    by_cases w0 : way = 0
    · refine iteD1 (by rw [w0]; rfl) ?_
      refine ⟨_, rfl, _, rfl, _, rfl, tx row, rfl, hz, tx (row.take spot), _, congrArg V.str (cutS_to row spot), rfl, ?_, ?_⟩
      · rw [len_tx, List.length_take]
        exact Nat.le_trans (Nat.add_le_add_right (Nat.min_le_left _ _) _) (Nat.le_trans (Nat.add_le_add_right (Nat.le_trans hspot hr8) _) (by decide))
      refine ⟨_, rfl, _, rfl, _, _, rfl, rfl, _, rfl, tx row, rfl, hz, tx (row.take spot ++ [120]), tx (row.drop (spot + 1)), congrArg V.str (tx_app (row.take spot) [120]), congrArg V.str (cutS_from row (spot + 1)), ?_, ?_⟩
      · rw [len_tx, len_tx, List.length_append, List.length_take, List.length_drop]
        refine Nat.le_trans (m := 100) ?_ (by decide)
        simp
        omega
      rw [tx_app]
      have hro : rowOf way spot far row = row.take spot ++ [120] ++ row.drop (spot + 1) := by
        unfold rowOf
        rw [if_pos w0]
      have hrx : (row.take spot ++ [120] ++ row.drop (spot + 1)).length ≤ 9 := by
        rw [List.length_append, List.length_append, List.length_take, List.length_drop]
        simp
        omega
      refine ⟨_, rfl, rfl, _, rfl, ?_⟩
      refine iteD0 (by rw [w0]; decide) ?_
      refine iteF ?_
      refine ⟨_, rfl, (by show 1 ≤ sizeLine; decide), fun p1 h1 => ?_⟩
      refine ⟨_, rfl, (by show 1 ≤ sizeLine; decide), fun p2 h2 => ?_⟩
      refine ⟨(by show 2 ≤ sizeLine; decide), fun p3 h3 => ?_⟩
      have hm2 : spot % 2 < 2 := Nat.mod_lt _ (by decide)
      obtain ⟨nw, hnw⟩ := get_some (l := [([] : List Nat), [110, 101, 119]]) hm2
      have hnw2 : [V.str "", V.str "new"][spot % 2]? = some (V.str (tx nw)) := get_map (f := fun p => V.str (tx p)) hnw
      have hnl : nw.length ≤ 9 := by
        rcases List.mem_cons.mp (List.mem_of_getElem? hnw) with e | e
        · rw [e]; decide
        · rw [List.mem_singleton.mp e]; decide
      refine ⟨_, rfl, .inl ⟨_, rfl, _, _, rfl, rfl, (by show (0 : Int) < 2; decide), p3, _, _, .str (tx nw), rfl, rfl, SqL.of upd_same, atI_nat (j := spot % 2) hnw2, ?_⟩⟩
      refine ⟨_, rfl, (by show 2 ≤ sizeLine; decide), fun p4 h4 => ?_⟩
      refine ⟨(by show 0 ≤ sizeLine; decide), fun p5 h5 => ?_⟩
      refine ⟨_, rfl, (by show 1 ≤ sizeLine; decide), fun p6 h6 => ?_⟩
      refine ⟨_, rfl, (by show 1 ≤ sizeLine; decide), fun p7 h7 => ?_⟩
      refine ⟨(by show 6 ≤ sizeLine; decide), fun p8 h8 => ?_⟩
      obtain ⟨sF, x1, x2, x4, x5, x6, x7, x8⟩ := six (o8 := _) h1 h2 h3 h4 h5 h6 h7 h8
      obtain ⟨pX, hpx, hX⟩ := pick6 hway hnw x1 x2 x4 x5 x6 x7
      refine ⟨_, rfl, p8, _, _, .ref pX, rfl, rfl, SqL.of x8, atI_nat hpx, ?_⟩
      have hLF := sF _ _ (hL1 a4 b4)
      refine ⟨_, rfl, _, rfl, _, rfl, pp, _, rfl, SqL.of hLF, fun p9 h9 => ?_⟩
      have hlc : ∀ (S : List (List Nat)) (lo hi : Option Int), (cutV (S.map fun p => V.str (tx p)) lo hi).length ≤ S.length := fun S lo hi => Nat.le_trans (cutV_length _ _ _) (by rw [List.length_map]; exact Nat.le_refl _)
      refine ⟨_, rfl, p9, pX, _, _, rfl, rfl, upd_same, keep1 h9 hX, ?_, fun p10 h10 => ?_⟩
      · refine Nat.le_trans (Nat.add_le_add (hlc L _ _) (by rw [List.length_map]; exact piece_len _ _ _)) (Nat.le_trans (Nat.add_le_add_right hL.2.1 2) (by decide))
      refine ⟨_, rfl, _, rfl, _, _, rfl, rfl, _, rfl, pp, _, rfl, SqL.of (keep1 h10 (keep1 h9 hLF)), fun p11 h11 => ?_⟩
      refine ⟨p10, p11, _, _, rfl, rfl, keep1 h11 upd_same, upd_same, ?_, fun p12 h12 => ?_⟩
      · refine Nat.le_trans (Nat.add_le_add (b := 8) ?_ (hlc L _ _)) (Nat.le_trans (Nat.add_le_add_left hL.2.1 8) (by decide))
        rw [List.length_append]
        exact Nat.le_trans (Nat.add_le_add (hlc L _ _) (by rw [List.length_map]; exact piece_len _ _ _)) (Nat.add_le_add_right hL.2.1 2)
      refine ⟨_, rfl, _, _, rfl, rfl, _, rfl, ?_⟩
      have sAll := fun (o : HO) => Same.trans sF (four (o4 := o) h9 h10 h11 h12)
      have bF := fun (o : HO) => But.trans ((But.of (Same.one H hpp)).put (o := .lst [.int a4, .int b4])) (But.of (sAll o))
      have stF := fun (o : HO) => (StAt.upd (H := L2.upd H pp (.lst (L.map fun p => V.str (tx p)))) (l := l) a4 b4).of (sAll o)
      by_cases w5 : way < 5
      · refine iteD1 (by omega) ?_
        have hM : ∀ p ∈ L.take i ++ piece way spot (rowOf way spot far row) ++ L.drop (i + 1), p.length ≤ 9 := by
          intro p hp
          rcases List.mem_append.mp hp with hp | hp
          · rcases List.mem_append.mp hp with hp | hp
            · exact Nat.le_trans (hL.2.2 p (List.mem_of_mem_take hp)).1 (by decide)
            · rw [hro] at hp
              exact piece_le hrx p hp
          · exact Nat.le_trans (hL.2.2 p (List.mem_of_mem_drop hp)).1 (by decide)
        have hMl : (L.take i ++ piece way spot (rowOf way spot far row) ++ L.drop (i + 1)).length ≤ 8 := by
          rw [List.length_append, List.length_append, List.length_take, List.length_drop]
          have := piece_len way spot (rowOf way spot far row)
          have := hL.2.1
          omega
        refine ⟨⟨_, rfl⟩, _, rfl, tx [10], p12, (L.take i ++ piece way spot (rowOf way spot far row) ++ L.drop (i + 1)).map tx, rfl, rfl, .inl (SqL.of ?_), ?_, ?_⟩
        · rw [upd_same, cutV_to, show ((i : Nat) : Int) + 1 = ((i + 1 : Nat) : Int) from rfl, cutV_from, hro, List.map_map, List.map_append, List.map_append, List.map_take, List.map_drop]
          rfl
        · refine Nat.le_trans (Nat.add_le_add (sum_le hM) (Nat.le_refl _)) ?_
          rw [List.length_map, len_tx]
          refine Nat.le_trans (m := 100) ?_ (by decide)
          simp only [List.length_cons, List.length_nil]
          omega
        refine ⟨(by show 3 ≤ sizeLine; decide), fun p13 h13 => ?_⟩
        refine ⟨_, rfl, l, 3, rfl, (stF _).set h13, by decide, by decide, fun c a5 b5 hc => ?_⟩
        have hc3 : c < [([] : List Nat), [10], [32]].length := by
          show c < 3
          omega
        obtain ⟨sfx, hsfx⟩ := get_some hc3
        have hsm : sfx ∈ [([] : List Nat), [10], [32]] := List.mem_of_getElem? hsfx
        have hsl : sfx.length ≤ 1 := by
          rcases List.mem_cons.mp hsm with e | e
          · rw [e]; decide
          · rcases List.mem_cons.mp e with e | e
            · rw [e]; decide
            · rw [List.mem_singleton.mp e]; decide
        have n13 : p13 ≠ l := fun e => by
          obtain ⟨a, b, h⟩ := stF _
          rw [e, h] at h13
          cases h13
        have hsv : [V.str "", V.str "\n", V.str " "][c]? = some (V.str (tx sfx)) := get_map (f := fun p => V.str (tx p)) hsfx
        refine ⟨p13, _, _, .str (tx sfx), rfl, rfl, SqL.of (by rw [upd_ne n13, upd_same]), atI_nat hsv, ?_⟩
        refine ⟨tx (glue 10 (L.take i ++ piece way spot (rowOf way spot far row) ++ L.drop (i + 1))), tx sfx, congrArg V.str (join_eq 10 _), rfl, ?_, ?_⟩
        · rw [len_tx, len_tx]
          refine Nat.le_trans (m := 100) (Nat.le_trans (Nat.add_le_add (glue_le hM) hsl) ?_) (by decide)
          omega
        rw [tx_app]
        exact k _ _ (But.trans (bF _) ((But.of (Same.one _ h13)).put)) (StAt.upd _ _) ⟨way, i, spot, far, row, sfx, hrow, hspot, hfar, hsm, .inl ⟨w5, rfl⟩⟩
      · refine iteD0 (by omega) ?_
        exact ⟨_, rfl, k _ _ (bF _) (stF _) ⟨way, i, spot, far, row, [], hrow, hspot, hfar, List.mem_cons_self .., .inr rfl⟩⟩
    · refine iteD0 (fun e => w0 (by
        have : ((way : Nat) : Int) = 0 := by simpa using e
        omega)) ?_
      refine ⟨_, rfl, rfl, _, rfl, ?_⟩
      by_cases w1 : way = 1 ∧ spot < far ∧ far < row.length
      · refine iteD1 (by rw [w1.1]; rfl) ?_
        refine ⟨_, rfl, _, rfl, _, _, rfl, rfl, _, rfl, ?_⟩
        refine iteD1 (by omega) ?_
        refine ⟨_, rfl, tx row, rfl, hz, _, _, rfl, rfl, _, rfl, ?_⟩
        refine iteD1 (by rw [hrl]; omega) ?_
        obtain ⟨_, hsf, hfl⟩ := w1
        have hsl' : spot < row.length := by omega
        have g1 : row[far]? = some (row.getD far 0) := by rw [List.getD_eq_getElem?_getD, List.getElem?_eq_getElem hfl]; rfl
        have g2 : row[spot]? = some (row.getD spot 0) := by rw [List.getD_eq_getElem?_getD, List.getElem?_eq_getElem hsl']; rfl
        refine ⟨_, rfl, _, rfl, _, rfl, tx row, rfl, hz, _, rfl, _, rfl, tx row, _, row.getD far 0, rfl, rfl, hz, atI_nat g1, tx (row.take spot), tx [row.getD far 0], congrArg V.str (cutS_to row spot), rfl, ?_, ?_⟩
        · rw [len_tx, len_tx, List.length_take]
          refine Nat.le_trans (m := 100) ?_ (by decide)
          simp
          omega
        refine ⟨_, rfl, _, rfl, tx row, _, row.getD spot 0, rfl, rfl, hz, atI_nat g2, _, rfl, _, rfl, _, _, rfl, rfl, _, rfl, tx row, rfl, hz, tx [row.getD spot 0], tx (row.drop (far + 1)), rfl, congrArg V.str (cutS_from row (far + 1)), ?_, ?_⟩
        · rw [len_tx, len_tx, List.length_drop]
          refine Nat.le_trans (m := 100) ?_ (by decide)
          simp
          omega
        rw [tx_app, tx_app]
        refine ⟨_, _, rfl, ?_⟩
        refine ⟨_, rfl, _, rfl, _, rfl, _, _, rfl, rfl, _, rfl, _, rfl, _, rfl, tx row, rfl, hz, tx (row.take spot ++ [row.getD far 0]), tx ((row.drop (spot + 1)).take (far - (spot + 1))), rfl, congrArg V.str (cutS_mid row (spot + 1) far), ?_, ?_⟩
        · rw [len_tx, len_tx, List.length_append, List.length_take, List.length_take, List.length_drop]
          refine Nat.le_trans (m := 100) ?_ (by decide)
          simp
          omega
        refine ⟨_, rfl, tx (row.take spot ++ [row.getD far 0] ++ (row.drop (spot + 1)).take (far - (spot + 1))), tx ([row.getD spot 0] ++ row.drop (far + 1)), congrArg V.str (tx_app _ _), rfl, ?_, ?_⟩
        · rw [len_tx, len_tx]
          simp only [List.length_append, List.length_take, List.length_drop, List.length_cons, List.length_nil]
          refine Nat.le_trans (m := 100) ?_ (by decide)
          omega
        rw [tx_app]
        have hro : rowOf way spot far row = row.take spot ++ [row.getD far 0] ++ (row.drop (spot + 1)).take (far - (spot + 1)) ++ ([row.getD spot 0] ++ row.drop (far + 1)) := by
          unfold rowOf
          rw [if_neg w0, if_pos ⟨by assumption, hsf, hfl⟩]
        have hrx : (row.take spot ++ [row.getD far 0] ++ (row.drop (spot + 1)).take (far - (spot + 1)) ++ ([row.getD spot 0] ++ row.drop (far + 1))).length ≤ 9 := by
          simp only [List.length_append, List.length_take, List.length_drop, List.length_cons, List.length_nil]
          omega
        refine ⟨_, rfl, (by show 1 ≤ sizeLine; decide), fun p1 h1 => ?_⟩
        refine ⟨_, rfl, (by show 1 ≤ sizeLine; decide), fun p2 h2 => ?_⟩
        refine ⟨(by show 2 ≤ sizeLine; decide), fun p3 h3 => ?_⟩
        have hm2 : spot % 2 < 2 := Nat.mod_lt _ (by decide)
        obtain ⟨nw, hnw⟩ := get_some (l := [([] : List Nat), [110, 101, 119]]) hm2
        have hnw2 : [V.str "", V.str "new"][spot % 2]? = some (V.str (tx nw)) := get_map (f := fun p => V.str (tx p)) hnw
        have hnl : nw.length ≤ 9 := by
          rcases List.mem_cons.mp (List.mem_of_getElem? hnw) with e | e
          · rw [e]; decide
          · rw [List.mem_singleton.mp e]; decide
        refine ⟨_, rfl, .inl ⟨_, rfl, _, _, rfl, rfl, (by show (0 : Int) < 2; decide), p3, _, _, .str (tx nw), rfl, rfl, SqL.of upd_same, atI_nat (j := spot % 2) hnw2, ?_⟩⟩
        refine ⟨_, rfl, (by show 2 ≤ sizeLine; decide), fun p4 h4 => ?_⟩
        refine ⟨(by show 0 ≤ sizeLine; decide), fun p5 h5 => ?_⟩
        refine ⟨_, rfl, (by show 1 ≤ sizeLine; decide), fun p6 h6 => ?_⟩
        refine ⟨_, rfl, (by show 1 ≤ sizeLine; decide), fun p7 h7 => ?_⟩
        refine ⟨(by show 6 ≤ sizeLine; decide), fun p8 h8 => ?_⟩
        obtain ⟨sF, x1, x2, x4, x5, x6, x7, x8⟩ := six (o8 := _) h1 h2 h3 h4 h5 h6 h7 h8
        obtain ⟨pX, hpx, hX⟩ := pick6 hway hnw x1 x2 x4 x5 x6 x7
        refine ⟨_, rfl, p8, _, _, .ref pX, rfl, rfl, SqL.of x8, atI_nat hpx, ?_⟩
        have hLF := sF _ _ (hL1 a4 b4)
        refine ⟨_, rfl, _, rfl, _, rfl, pp, _, rfl, SqL.of hLF, fun p9 h9 => ?_⟩
        have hlc : ∀ (S : List (List Nat)) (lo hi : Option Int), (cutV (S.map fun p => V.str (tx p)) lo hi).length ≤ S.length := fun S lo hi => Nat.le_trans (cutV_length _ _ _) (by rw [List.length_map]; exact Nat.le_refl _)
        refine ⟨_, rfl, p9, pX, _, _, rfl, rfl, upd_same, keep1 h9 hX, ?_, fun p10 h10 => ?_⟩
        · refine Nat.le_trans (Nat.add_le_add (hlc L _ _) (by rw [List.length_map]; exact piece_len _ _ _)) (Nat.le_trans (Nat.add_le_add_right hL.2.1 2) (by decide))
        refine ⟨_, rfl, _, rfl, _, _, rfl, rfl, _, rfl, pp, _, rfl, SqL.of (keep1 h10 (keep1 h9 hLF)), fun p11 h11 => ?_⟩
        refine ⟨p10, p11, _, _, rfl, rfl, keep1 h11 upd_same, upd_same, ?_, fun p12 h12 => ?_⟩
        · refine Nat.le_trans (Nat.add_le_add (b := 8) ?_ (hlc L _ _)) (Nat.le_trans (Nat.add_le_add_left hL.2.1 8) (by decide))
          rw [List.length_append]
          exact Nat.le_trans (Nat.add_le_add (hlc L _ _) (by rw [List.length_map]; exact piece_len _ _ _)) (Nat.add_le_add_right hL.2.1 2)
        refine ⟨_, rfl, _, _, rfl, rfl, _, rfl, ?_⟩
        have sAll := fun (o : HO) => Same.trans sF (four (o4 := o) h9 h10 h11 h12)
        have bF := fun (o : HO) => But.trans ((But.of (Same.one H hpp)).put (o := .lst [.int a4, .int b4])) (But.of (sAll o))
        have stF := fun (o : HO) => (StAt.upd (H := L2.upd H pp (.lst (L.map fun p => V.str (tx p)))) (l := l) a4 b4).of (sAll o)
        by_cases w5 : way < 5
        · refine iteD1 (by omega) ?_
          have hM : ∀ p ∈ L.take i ++ piece way spot (rowOf way spot far row) ++ L.drop (i + 1), p.length ≤ 9 := by
            intro p hp
            rcases List.mem_append.mp hp with hp | hp
            · rcases List.mem_append.mp hp with hp | hp
              · exact Nat.le_trans (hL.2.2 p (List.mem_of_mem_take hp)).1 (by decide)
              · rw [hro] at hp
                exact piece_le hrx p hp
            · exact Nat.le_trans (hL.2.2 p (List.mem_of_mem_drop hp)).1 (by decide)
          have hMl : (L.take i ++ piece way spot (rowOf way spot far row) ++ L.drop (i + 1)).length ≤ 8 := by
            rw [List.length_append, List.length_append, List.length_take, List.length_drop]
            have := piece_len way spot (rowOf way spot far row)
            have := hL.2.1
            omega
          refine ⟨⟨_, rfl⟩, _, rfl, tx [10], p12, (L.take i ++ piece way spot (rowOf way spot far row) ++ L.drop (i + 1)).map tx, rfl, rfl, .inl (SqL.of ?_), ?_, ?_⟩
          · rw [upd_same, cutV_to, show ((i : Nat) : Int) + 1 = ((i + 1 : Nat) : Int) from rfl, cutV_from, hro, List.map_map, List.map_append, List.map_append, List.map_take, List.map_drop]
            rfl
          · refine Nat.le_trans (Nat.add_le_add (sum_le hM) (Nat.le_refl _)) ?_
            rw [List.length_map, len_tx]
            refine Nat.le_trans (m := 100) ?_ (by decide)
            simp only [List.length_cons, List.length_nil]
            omega
          refine ⟨(by show 3 ≤ sizeLine; decide), fun p13 h13 => ?_⟩
          refine ⟨_, rfl, l, 3, rfl, (stF _).set h13, by decide, by decide, fun c a5 b5 hc => ?_⟩
          have hc3 : c < [([] : List Nat), [10], [32]].length := by
            show c < 3
            omega
          obtain ⟨sfx, hsfx⟩ := get_some hc3
          have hsm : sfx ∈ [([] : List Nat), [10], [32]] := List.mem_of_getElem? hsfx
          have hsl : sfx.length ≤ 1 := by
            rcases List.mem_cons.mp hsm with e | e
            · rw [e]; decide
            · rcases List.mem_cons.mp e with e | e
              · rw [e]; decide
              · rw [List.mem_singleton.mp e]; decide
          have n13 : p13 ≠ l := fun e => by
            obtain ⟨a, b, h⟩ := stF _
            rw [e, h] at h13
            cases h13
          have hsv : [V.str "", V.str "\n", V.str " "][c]? = some (V.str (tx sfx)) := get_map (f := fun p => V.str (tx p)) hsfx
          refine ⟨p13, _, _, .str (tx sfx), rfl, rfl, SqL.of (by rw [upd_ne n13, upd_same]), atI_nat hsv, ?_⟩
          refine ⟨tx (glue 10 (L.take i ++ piece way spot (rowOf way spot far row) ++ L.drop (i + 1))), tx sfx, congrArg V.str (join_eq 10 _), rfl, ?_, ?_⟩
          · rw [len_tx, len_tx]
            refine Nat.le_trans (m := 100) (Nat.le_trans (Nat.add_le_add (glue_le hM) hsl) ?_) (by decide)
            omega
          rw [tx_app]
          exact k _ _ (But.trans (bF _) ((But.of (Same.one _ h13)).put)) (StAt.upd _ _) ⟨way, i, spot, far, row, sfx, hrow, hspot, hfar, hsm, .inl ⟨w5, rfl⟩⟩
        · refine iteD0 (by omega) ?_
          exact ⟨_, rfl, k _ _ (bF _) (stF _) ⟨way, i, spot, far, row, [], hrow, hspot, hfar, List.mem_cons_self .., .inr rfl⟩⟩
      · have hro : rowOf way spot far row = row := by
          unfold rowOf
          rw [if_neg w0, if_neg w1]
        have hrx : row.length ≤ 9 := by omega
        by_cases w2 : way = 1
        · refine iteD1 (by rw [w2]; rfl) ?_
          refine ⟨_, rfl, _, rfl, _, _, rfl, rfl, _, rfl, ?_⟩
          by_cases w3 : spot < far
          · refine iteD1 (by omega) ?_
            refine ⟨_, rfl, tx row, rfl, hz, _, _, rfl, rfl, _, rfl, ?_⟩
            refine iteD0 (by rw [hrl]; omega) ?_
            refine ⟨_, rfl, (by show 1 ≤ sizeLine; decide), fun p1 h1 => ?_⟩
            refine ⟨_, rfl, (by show 1 ≤ sizeLine; decide), fun p2 h2 => ?_⟩
            refine ⟨(by show 2 ≤ sizeLine; decide), fun p3 h3 => ?_⟩
            have hm2 : spot % 2 < 2 := Nat.mod_lt _ (by decide)
            obtain ⟨nw, hnw⟩ := get_some (l := [([] : List Nat), [110, 101, 119]]) hm2
            have hnw2 : [V.str "", V.str "new"][spot % 2]? = some (V.str (tx nw)) := get_map (f := fun p => V.str (tx p)) hnw
            have hnl : nw.length ≤ 9 := by
              rcases List.mem_cons.mp (List.mem_of_getElem? hnw) with e | e
              · rw [e]; decide
              · rw [List.mem_singleton.mp e]; decide
            refine ⟨_, rfl, .inl ⟨_, rfl, _, _, rfl, rfl, (by show (0 : Int) < 2; decide), p3, _, _, .str (tx nw), rfl, rfl, SqL.of upd_same, atI_nat (j := spot % 2) hnw2, ?_⟩⟩
            refine ⟨_, rfl, (by show 2 ≤ sizeLine; decide), fun p4 h4 => ?_⟩
            refine ⟨(by show 0 ≤ sizeLine; decide), fun p5 h5 => ?_⟩
            refine ⟨_, rfl, (by show 1 ≤ sizeLine; decide), fun p6 h6 => ?_⟩
            refine ⟨_, rfl, (by show 1 ≤ sizeLine; decide), fun p7 h7 => ?_⟩
            refine ⟨(by show 6 ≤ sizeLine; decide), fun p8 h8 => ?_⟩
            obtain ⟨sF, x1, x2, x4, x5, x6, x7, x8⟩ := six (o8 := _) h1 h2 h3 h4 h5 h6 h7 h8
            obtain ⟨pX, hpx, hX⟩ := pick6 hway hnw x1 x2 x4 x5 x6 x7
            refine ⟨_, rfl, p8, _, _, .ref pX, rfl, rfl, SqL.of x8, atI_nat hpx, ?_⟩
            have hLF := sF _ _ (hL1 a4 b4)
            refine ⟨_, rfl, _, rfl, _, rfl, pp, _, rfl, SqL.of hLF, fun p9 h9 => ?_⟩
            have hlc : ∀ (S : List (List Nat)) (lo hi : Option Int), (cutV (S.map fun p => V.str (tx p)) lo hi).length ≤ S.length := fun S lo hi => Nat.le_trans (cutV_length _ _ _) (by rw [List.length_map]; exact Nat.le_refl _)
            refine ⟨_, rfl, p9, pX, _, _, rfl, rfl, upd_same, keep1 h9 hX, ?_, fun p10 h10 => ?_⟩
            · refine Nat.le_trans (Nat.add_le_add (hlc L _ _) (by rw [List.length_map]; exact piece_len _ _ _)) (Nat.le_trans (Nat.add_le_add_right hL.2.1 2) (by decide))
            refine ⟨_, rfl, _, rfl, _, _, rfl, rfl, _, rfl, pp, _, rfl, SqL.of (keep1 h10 (keep1 h9 hLF)), fun p11 h11 => ?_⟩
            refine ⟨p10, p11, _, _, rfl, rfl, keep1 h11 upd_same, upd_same, ?_, fun p12 h12 => ?_⟩
            · refine Nat.le_trans (Nat.add_le_add (b := 8) ?_ (hlc L _ _)) (Nat.le_trans (Nat.add_le_add_left hL.2.1 8) (by decide))
              rw [List.length_append]
              exact Nat.le_trans (Nat.add_le_add (hlc L _ _) (by rw [List.length_map]; exact piece_len _ _ _)) (Nat.add_le_add_right hL.2.1 2)
            refine ⟨_, rfl, _, _, rfl, rfl, _, rfl, ?_⟩
            have sAll := fun (o : HO) => Same.trans sF (four (o4 := o) h9 h10 h11 h12)
            have bF := fun (o : HO) => But.trans ((But.of (Same.one H hpp)).put (o := .lst [.int a4, .int b4])) (But.of (sAll o))
            have stF := fun (o : HO) => (StAt.upd (H := L2.upd H pp (.lst (L.map fun p => V.str (tx p)))) (l := l) a4 b4).of (sAll o)
            by_cases w5 : way < 5
            · refine iteD1 (by omega) ?_
              have hM : ∀ p ∈ L.take i ++ piece way spot (rowOf way spot far row) ++ L.drop (i + 1), p.length ≤ 9 := by
                intro p hp
                rcases List.mem_append.mp hp with hp | hp
                · rcases List.mem_append.mp hp with hp | hp
                  · exact Nat.le_trans (hL.2.2 p (List.mem_of_mem_take hp)).1 (by decide)
                  · rw [hro] at hp
                    exact piece_le hrx p hp
                · exact Nat.le_trans (hL.2.2 p (List.mem_of_mem_drop hp)).1 (by decide)
              have hMl : (L.take i ++ piece way spot (rowOf way spot far row) ++ L.drop (i + 1)).length ≤ 8 := by
                rw [List.length_append, List.length_append, List.length_take, List.length_drop]
                have := piece_len way spot (rowOf way spot far row)
                have := hL.2.1
                omega
              refine ⟨⟨_, rfl⟩, _, rfl, tx [10], p12, (L.take i ++ piece way spot (rowOf way spot far row) ++ L.drop (i + 1)).map tx, rfl, rfl, .inl (SqL.of ?_), ?_, ?_⟩
              · rw [upd_same, cutV_to, show ((i : Nat) : Int) + 1 = ((i + 1 : Nat) : Int) from rfl, cutV_from, hro, List.map_map, List.map_append, List.map_append, List.map_take, List.map_drop]
                rfl
              · refine Nat.le_trans (Nat.add_le_add (sum_le hM) (Nat.le_refl _)) ?_
                rw [List.length_map, len_tx]
                refine Nat.le_trans (m := 100) ?_ (by decide)
                simp only [List.length_cons, List.length_nil]
                omega
              refine ⟨(by show 3 ≤ sizeLine; decide), fun p13 h13 => ?_⟩
              refine ⟨_, rfl, l, 3, rfl, (stF _).set h13, by decide, by decide, fun c a5 b5 hc => ?_⟩
              have hc3 : c < [([] : List Nat), [10], [32]].length := by
                show c < 3
                omega
              obtain ⟨sfx, hsfx⟩ := get_some hc3
              have hsm : sfx ∈ [([] : List Nat), [10], [32]] := List.mem_of_getElem? hsfx
              have hsl : sfx.length ≤ 1 := by
                rcases List.mem_cons.mp hsm with e | e
                · rw [e]; decide
                · rcases List.mem_cons.mp e with e | e
                  · rw [e]; decide
                  · rw [List.mem_singleton.mp e]; decide
              have n13 : p13 ≠ l := fun e => by
                obtain ⟨a, b, h⟩ := stF _
                rw [e, h] at h13
                cases h13
              have hsv : [V.str "", V.str "\n", V.str " "][c]? = some (V.str (tx sfx)) := get_map (f := fun p => V.str (tx p)) hsfx
              refine ⟨p13, _, _, .str (tx sfx), rfl, rfl, SqL.of (by rw [upd_ne n13, upd_same]), atI_nat hsv, ?_⟩
              refine ⟨tx (glue 10 (L.take i ++ piece way spot (rowOf way spot far row) ++ L.drop (i + 1))), tx sfx, congrArg V.str (join_eq 10 _), rfl, ?_, ?_⟩
              · rw [len_tx, len_tx]
                refine Nat.le_trans (m := 100) (Nat.le_trans (Nat.add_le_add (glue_le hM) hsl) ?_) (by decide)
                omega
              rw [tx_app]
              exact k _ _ (But.trans (bF _) ((But.of (Same.one _ h13)).put)) (StAt.upd _ _) ⟨way, i, spot, far, row, sfx, hrow, hspot, hfar, hsm, .inl ⟨w5, rfl⟩⟩
            · refine iteD0 (by omega) ?_
              exact ⟨_, rfl, k _ _ (bF _) (stF _) ⟨way, i, spot, far, row, [], hrow, hspot, hfar, List.mem_cons_self .., .inr rfl⟩⟩
          · refine iteD0 (by omega) ?_
            refine ⟨_, rfl, ?_⟩
            refine iteF ?_
            refine ⟨_, rfl, (by show 1 ≤ sizeLine; decide), fun p1 h1 => ?_⟩
            refine ⟨_, rfl, (by show 1 ≤ sizeLine; decide), fun p2 h2 => ?_⟩
            refine ⟨(by show 2 ≤ sizeLine; decide), fun p3 h3 => ?_⟩
            have hm2 : spot % 2 < 2 := Nat.mod_lt _ (by decide)
            obtain ⟨nw, hnw⟩ := get_some (l := [([] : List Nat), [110, 101, 119]]) hm2
            have hnw2 : [V.str "", V.str "new"][spot % 2]? = some (V.str (tx nw)) := get_map (f := fun p => V.str (tx p)) hnw
            have hnl : nw.length ≤ 9 := by
              rcases List.mem_cons.mp (List.mem_of_getElem? hnw) with e | e
              · rw [e]; decide
              · rw [List.mem_singleton.mp e]; decide
            refine ⟨_, rfl, .inl ⟨_, rfl, _, _, rfl, rfl, (by show (0 : Int) < 2; decide), p3, _, _, .str (tx nw), rfl, rfl, SqL.of upd_same, atI_nat (j := spot % 2) hnw2, ?_⟩⟩
            refine ⟨_, rfl, (by show 2 ≤ sizeLine; decide), fun p4 h4 => ?_⟩
            refine ⟨(by show 0 ≤ sizeLine; decide), fun p5 h5 => ?_⟩
            refine ⟨_, rfl, (by show 1 ≤ sizeLine; decide), fun p6 h6 => ?_⟩
            refine ⟨_, rfl, (by show 1 ≤ sizeLine; decide), fun p7 h7 => ?_⟩
            refine ⟨(by show 6 ≤ sizeLine; decide), fun p8 h8 => ?_⟩
            obtain ⟨sF, x1, x2, x4, x5, x6, x7, x8⟩ := six (o8 := _) h1 h2 h3 h4 h5 h6 h7 h8
            obtain ⟨pX, hpx, hX⟩ := pick6 hway hnw x1 x2 x4 x5 x6 x7
            refine ⟨_, rfl, p8, _, _, .ref pX, rfl, rfl, SqL.of x8, atI_nat hpx, ?_⟩
            have hLF := sF _ _ (hL1 a4 b4)
            refine ⟨_, rfl, _, rfl, _, rfl, pp, _, rfl, SqL.of hLF, fun p9 h9 => ?_⟩
            have hlc : ∀ (S : List (List Nat)) (lo hi : Option Int), (cutV (S.map fun p => V.str (tx p)) lo hi).length ≤ S.length := fun S lo hi => Nat.le_trans (cutV_length _ _ _) (by rw [List.length_map]; exact Nat.le_refl _)
            refine ⟨_, rfl, p9, pX, _, _, rfl, rfl, upd_same, keep1 h9 hX, ?_, fun p10 h10 => ?_⟩
            · refine Nat.le_trans (Nat.add_le_add (hlc L _ _) (by rw [List.length_map]; exact piece_len _ _ _)) (Nat.le_trans (Nat.add_le_add_right hL.2.1 2) (by decide))
            refine ⟨_, rfl, _, rfl, _, _, rfl, rfl, _, rfl, pp, _, rfl, SqL.of (keep1 h10 (keep1 h9 hLF)), fun p11 h11 => ?_⟩
            refine ⟨p10, p11, _, _, rfl, rfl, keep1 h11 upd_same, upd_same, ?_, fun p12 h12 => ?_⟩
            · refine Nat.le_trans (Nat.add_le_add (b := 8) ?_ (hlc L _ _)) (Nat.le_trans (Nat.add_le_add_left hL.2.1 8) (by decide))
              rw [List.length_append]
              exact Nat.le_trans (Nat.add_le_add (hlc L _ _) (by rw [List.length_map]; exact piece_len _ _ _)) (Nat.add_le_add_right hL.2.1 2)
            refine ⟨_, rfl, _, _, rfl, rfl, _, rfl, ?_⟩
            have sAll := fun (o : HO) => Same.trans sF (four (o4 := o) h9 h10 h11 h12)
            have bF := fun (o : HO) => But.trans ((But.of (Same.one H hpp)).put (o := .lst [.int a4, .int b4])) (But.of (sAll o))
            have stF := fun (o : HO) => (StAt.upd (H := L2.upd H pp (.lst (L.map fun p => V.str (tx p)))) (l := l) a4 b4).of (sAll o)
            by_cases w5 : way < 5
            · refine iteD1 (by omega) ?_
              have hM : ∀ p ∈ L.take i ++ piece way spot (rowOf way spot far row) ++ L.drop (i + 1), p.length ≤ 9 := by
                intro p hp
                rcases List.mem_append.mp hp with hp | hp
                · rcases List.mem_append.mp hp with hp | hp
                  · exact Nat.le_trans (hL.2.2 p (List.mem_of_mem_take hp)).1 (by decide)
                  · rw [hro] at hp
                    exact piece_le hrx p hp
                · exact Nat.le_trans (hL.2.2 p (List.mem_of_mem_drop hp)).1 (by decide)
              have hMl : (L.take i ++ piece way spot (rowOf way spot far row) ++ L.drop (i + 1)).length ≤ 8 := by
                rw [List.length_append, List.length_append, List.length_take, List.length_drop]
                have := piece_len way spot (rowOf way spot far row)
                have := hL.2.1
                omega
              refine ⟨⟨_, rfl⟩, _, rfl, tx [10], p12, (L.take i ++ piece way spot (rowOf way spot far row) ++ L.drop (i + 1)).map tx, rfl, rfl, .inl (SqL.of ?_), ?_, ?_⟩
              · rw [upd_same, cutV_to, show ((i : Nat) : Int) + 1 = ((i + 1 : Nat) : Int) from rfl, cutV_from, hro, List.map_map, List.map_append, List.map_append, List.map_take, List.map_drop]
                rfl
              · refine Nat.le_trans (Nat.add_le_add (sum_le hM) (Nat.le_refl _)) ?_
                rw [List.length_map, len_tx]
                refine Nat.le_trans (m := 100) ?_ (by decide)
                simp only [List.length_cons, List.length_nil]
                omega
              refine ⟨(by show 3 ≤ sizeLine; decide), fun p13 h13 => ?_⟩
              refine ⟨_, rfl, l, 3, rfl, (stF _).set h13, by decide, by decide, fun c a5 b5 hc => ?_⟩
              have hc3 : c < [([] : List Nat), [10], [32]].length := by
                show c < 3
                omega
              obtain ⟨sfx, hsfx⟩ := get_some hc3
              have hsm : sfx ∈ [([] : List Nat), [10], [32]] := List.mem_of_getElem? hsfx
              have hsl : sfx.length ≤ 1 := by
                rcases List.mem_cons.mp hsm with e | e
                · rw [e]; decide
                · rcases List.mem_cons.mp e with e | e
                  · rw [e]; decide
                  · rw [List.mem_singleton.mp e]; decide
              have n13 : p13 ≠ l := fun e => by
                obtain ⟨a, b, h⟩ := stF _
                rw [e, h] at h13
                cases h13
              have hsv : [V.str "", V.str "\n", V.str " "][c]? = some (V.str (tx sfx)) := get_map (f := fun p => V.str (tx p)) hsfx
              refine ⟨p13, _, _, .str (tx sfx), rfl, rfl, SqL.of (by rw [upd_ne n13, upd_same]), atI_nat hsv, ?_⟩
              refine ⟨tx (glue 10 (L.take i ++ piece way spot (rowOf way spot far row) ++ L.drop (i + 1))), tx sfx, congrArg V.str (join_eq 10 _), rfl, ?_, ?_⟩
              · rw [len_tx, len_tx]
                refine Nat.le_trans (m := 100) (Nat.le_trans (Nat.add_le_add (glue_le hM) hsl) ?_) (by decide)
                omega
              rw [tx_app]
              exact k _ _ (But.trans (bF _) ((But.of (Same.one _ h13)).put)) (StAt.upd _ _) ⟨way, i, spot, far, row, sfx, hrow, hspot, hfar, hsm, .inl ⟨w5, rfl⟩⟩
            · refine iteD0 (by omega) ?_
              exact ⟨_, rfl, k _ _ (bF _) (stF _) ⟨way, i, spot, far, row, [], hrow, hspot, hfar, List.mem_cons_self .., .inr rfl⟩⟩
        · refine iteD0 (fun e => w2 (by
            have : ((way : Nat) : Int) = 1 := by simpa using e
            omega)) ?_
          refine iteF ?_
          refine ⟨_, rfl, (by show 1 ≤ sizeLine; decide), fun p1 h1 => ?_⟩
          refine ⟨_, rfl, (by show 1 ≤ sizeLine; decide), fun p2 h2 => ?_⟩
          refine ⟨(by show 2 ≤ sizeLine; decide), fun p3 h3 => ?_⟩
          have hm2 : spot % 2 < 2 := Nat.mod_lt _ (by decide)
          obtain ⟨nw, hnw⟩ := get_some (l := [([] : List Nat), [110, 101, 119]]) hm2
          have hnw2 : [V.str "", V.str "new"][spot % 2]? = some (V.str (tx nw)) := get_map (f := fun p => V.str (tx p)) hnw
          have hnl : nw.length ≤ 9 := by
            rcases List.mem_cons.mp (List.mem_of_getElem? hnw) with e | e
            · rw [e]; decide
            · rw [List.mem_singleton.mp e]; decide
          refine ⟨_, rfl, .inl ⟨_, rfl, _, _, rfl, rfl, (by show (0 : Int) < 2; decide), p3, _, _, .str (tx nw), rfl, rfl, SqL.of upd_same, atI_nat (j := spot % 2) hnw2, ?_⟩⟩
          refine ⟨_, rfl, (by show 2 ≤ sizeLine; decide), fun p4 h4 => ?_⟩
          refine ⟨(by show 0 ≤ sizeLine; decide), fun p5 h5 => ?_⟩
          refine ⟨_, rfl, (by show 1 ≤ sizeLine; decide), fun p6 h6 => ?_⟩
          refine ⟨_, rfl, (by show 1 ≤ sizeLine; decide), fun p7 h7 => ?_⟩
          refine ⟨(by show 6 ≤ sizeLine; decide), fun p8 h8 => ?_⟩
          obtain ⟨sF, x1, x2, x4, x5, x6, x7, x8⟩ := six (o8 := _) h1 h2 h3 h4 h5 h6 h7 h8
          obtain ⟨pX, hpx, hX⟩ := pick6 hway hnw x1 x2 x4 x5 x6 x7
          refine ⟨_, rfl, p8, _, _, .ref pX, rfl, rfl, SqL.of x8, atI_nat hpx, ?_⟩
          have hLF := sF _ _ (hL1 a4 b4)
          refine ⟨_, rfl, _, rfl, _, rfl, pp, _, rfl, SqL.of hLF, fun p9 h9 => ?_⟩
          have hlc : ∀ (S : List (List Nat)) (lo hi : Option Int), (cutV (S.map fun p => V.str (tx p)) lo hi).length ≤ S.length := fun S lo hi => Nat.le_trans (cutV_length _ _ _) (by rw [List.length_map]; exact Nat.le_refl _)
          refine ⟨_, rfl, p9, pX, _, _, rfl, rfl, upd_same, keep1 h9 hX, ?_, fun p10 h10 => ?_⟩
          · refine Nat.le_trans (Nat.add_le_add (hlc L _ _) (by rw [List.length_map]; exact piece_len _ _ _)) (Nat.le_trans (Nat.add_le_add_right hL.2.1 2) (by decide))
          refine ⟨_, rfl, _, rfl, _, _, rfl, rfl, _, rfl, pp, _, rfl, SqL.of (keep1 h10 (keep1 h9 hLF)), fun p11 h11 => ?_⟩
          refine ⟨p10, p11, _, _, rfl, rfl, keep1 h11 upd_same, upd_same, ?_, fun p12 h12 => ?_⟩
          · refine Nat.le_trans (Nat.add_le_add (b := 8) ?_ (hlc L _ _)) (Nat.le_trans (Nat.add_le_add_left hL.2.1 8) (by decide))
            rw [List.length_append]
            exact Nat.le_trans (Nat.add_le_add (hlc L _ _) (by rw [List.length_map]; exact piece_len _ _ _)) (Nat.add_le_add_right hL.2.1 2)
          refine ⟨_, rfl, _, _, rfl, rfl, _, rfl, ?_⟩
          have sAll := fun (o : HO) => Same.trans sF (four (o4 := o) h9 h10 h11 h12)
          have bF := fun (o : HO) => But.trans ((But.of (Same.one H hpp)).put (o := .lst [.int a4, .int b4])) (But.of (sAll o))
          have stF := fun (o : HO) => (StAt.upd (H := L2.upd H pp (.lst (L.map fun p => V.str (tx p)))) (l := l) a4 b4).of (sAll o)
          by_cases w5 : way < 5
          · refine iteD1 (by omega) ?_
            have hM : ∀ p ∈ L.take i ++ piece way spot (rowOf way spot far row) ++ L.drop (i + 1), p.length ≤ 9 := by
              intro p hp
              rcases List.mem_append.mp hp with hp | hp
              · rcases List.mem_append.mp hp with hp | hp
                · exact Nat.le_trans (hL.2.2 p (List.mem_of_mem_take hp)).1 (by decide)
                · rw [hro] at hp
                  exact piece_le hrx p hp
              · exact Nat.le_trans (hL.2.2 p (List.mem_of_mem_drop hp)).1 (by decide)
            have hMl : (L.take i ++ piece way spot (rowOf way spot far row) ++ L.drop (i + 1)).length ≤ 8 := by
              rw [List.length_append, List.length_append, List.length_take, List.length_drop]
              have := piece_len way spot (rowOf way spot far row)
              have := hL.2.1
              omega
            refine ⟨⟨_, rfl⟩, _, rfl, tx [10], p12, (L.take i ++ piece way spot (rowOf way spot far row) ++ L.drop (i + 1)).map tx, rfl, rfl, .inl (SqL.of ?_), ?_, ?_⟩
            · rw [upd_same, cutV_to, show ((i : Nat) : Int) + 1 = ((i + 1 : Nat) : Int) from rfl, cutV_from, hro, List.map_map, List.map_append, List.map_append, List.map_take, List.map_drop]
              rfl
            · refine Nat.le_trans (Nat.add_le_add (sum_le hM) (Nat.le_refl _)) ?_
              rw [List.length_map, len_tx]
              refine Nat.le_trans (m := 100) ?_ (by decide)
              simp only [List.length_cons, List.length_nil]
              omega
            refine ⟨(by show 3 ≤ sizeLine; decide), fun p13 h13 => ?_⟩
            refine ⟨_, rfl, l, 3, rfl, (stF _).set h13, by decide, by decide, fun c a5 b5 hc => ?_⟩
            have hc3 : c < [([] : List Nat), [10], [32]].length := by
              show c < 3
              omega
            obtain ⟨sfx, hsfx⟩ := get_some hc3
            have hsm : sfx ∈ [([] : List Nat), [10], [32]] := List.mem_of_getElem? hsfx
            have hsl : sfx.length ≤ 1 := by
              rcases List.mem_cons.mp hsm with e | e
              · rw [e]; decide
              · rcases List.mem_cons.mp e with e | e
                · rw [e]; decide
                · rw [List.mem_singleton.mp e]; decide
            have n13 : p13 ≠ l := fun e => by
              obtain ⟨a, b, h⟩ := stF _
              rw [e, h] at h13
              cases h13
            have hsv : [V.str "", V.str "\n", V.str " "][c]? = some (V.str (tx sfx)) := get_map (f := fun p => V.str (tx p)) hsfx
            refine ⟨p13, _, _, .str (tx sfx), rfl, rfl, SqL.of (by rw [upd_ne n13, upd_same]), atI_nat hsv, ?_⟩
            refine ⟨tx (glue 10 (L.take i ++ piece way spot (rowOf way spot far row) ++ L.drop (i + 1))), tx sfx, congrArg V.str (join_eq 10 _), rfl, ?_, ?_⟩
            · rw [len_tx, len_tx]
              refine Nat.le_trans (m := 100) (Nat.le_trans (Nat.add_le_add (glue_le hM) hsl) ?_) (by decide)
              omega
            rw [tx_app]
            exact k _ _ (But.trans (bF _) ((But.of (Same.one _ h13)).put)) (StAt.upd _ _) ⟨way, i, spot, far, row, sfx, hrow, hspot, hfar, hsm, .inl ⟨w5, rfl⟩⟩
          · refine iteD0 (by omega) ?_
            exact ⟨_, rfl, k _ _ (bF _) (stF _) ⟨way, i, spot, far, row, [], hrow, hspot, hfar, List.mem_cons_self .., .inr rfl⟩⟩
end
end K79
/-! K79P -/
set_option Elab.async false
set_option linter.all false
set_option maxRecDepth 100000
set_option maxHeartbeats 4000000
namespace K79
open PySem PySem.Spec PyProof.Rows L2 My He
theorem wsum_app : ∀ (k : Nat) (a b : List Nat), wsum k (a ++ b) = wsum k a + wsum (k + a.length) b
  | k, [], b => by simp [wsum]
  | k, c :: a, b => by
    show ((k : Int) + 1) * (c : Int) + wsum (k + 1) (a ++ b) = ((k : Int) + 1) * (c : Int) + wsum (k + 1) a + wsum (k + (a.length + 1)) b
    rw [wsum_app (k + 1) a b, show k + 1 + a.length = k + (a.length + 1) by omega]
    omega
theorem wsum_bd : ∀ (k : Nat) (p : List Nat), k + p.length ≤ 9 → (∀ c ∈ p, c ≤ 126) → 0 ≤ wsum k p ∧ wsum k p ≤ p.length * 1134
  | _, [], _, _ => ⟨Int.le_refl _, Int.le_refl _⟩
  | k, c :: p, h, hc => by
    rw [List.length_cons] at h
    obtain ⟨h1, h2⟩ := wsum_bd (k + 1) p (by omega) fun x hx => hc x (List.mem_cons_of_mem _ hx)
    have h3 := hc c (List.mem_cons_self ..)
    have h4 : (k + 1) * c ≤ 9 * 126 := Nat.mul_le_mul (by omega) h3
    have e : ((k : Int) + 1) * (c : Int) = (((k + 1) * c : Nat) : Int) := by
      rw [Int.natCast_mul]
      rfl
    show 0 ≤ ((k : Int) + 1) * (c : Int) + wsum (k + 1) p ∧ ((k : Int) + 1) * (c : Int) + wsum (k + 1) p ≤ ((p.length + 1 : Nat) : Int) * 1134
    rw [e]
    generalize (k + 1) * c = t at *
    omega
def Ok126 (p : List Nat) : Prop := p.length ≤ 9 ∧ ∀ c ∈ p, c ≤ 126
theorem csum_eq {p : List Nat} (h : Ok126 p) : csum p = wsum 0 p := by
  obtain ⟨h1, h2⟩ := wsum_bd 0 p (by have := h.1; omega) h.2
  have := h.1
  unfold csum
  exact Int.emod_eq_of_lt h1 (by omega)
theorem sign_le {c : Nat} (h : c ∈ signs) : c ≤ 126 := by
  revert h
  have : ∀ c ∈ signs, c ≤ 126 := by decide
  exact this c
theorem sign_ne {c : Nat} (h : c ∈ signs) : c ≠ 120 := by
  have : ∀ c ∈ signs, c ≠ 120 := by decide
  exact this c h
theorem row_ok {p : List Nat} (h : Row p) : Ok126 p := ⟨by have := h.1; omega, fun c hc => sign_le (h.2 c hc)⟩
theorem num_eq {p q : List Nat} (hp : Ok126 p) (hq : Ok126 q) (h : num p = num q) : p.length = q.length ∧ wsum 0 p = wsum 0 q := by
  have h1 : (p.length : Int) = (q.length : Int) := congrArg Prod.fst h
  have h2 : csum p = csum q := congrArg Prod.snd h
  rw [csum_eq hp, csum_eq hq] at h2
  exact ⟨by omega, h2⟩
theorem split1 {row : List Nat} {s : Nat} (h : s < row.length) : row = row.take s ++ row.getD s 0 :: row.drop (s + 1) := by
  have e : row.getD s 0 = row[s] := by rw [List.getD_eq_getElem?_getD, List.getElem?_eq_getElem h]; rfl
  rw [e, ← List.drop_eq_getElem_cons h, List.take_append_drop]
theorem getD_mem {row : List Nat} {s : Nat} (h : s < row.length) : row.getD s 0 ∈ row := by
  have e : row.getD s 0 = row[s] := by rw [List.getD_eq_getElem?_getD, List.getElem?_eq_getElem h]; rfl
  rw [e]
  exact List.getElem_mem h
theorem mul_same {k : Nat} {a b : Nat} (h : ((k : Int) + 1) * (a : Int) = ((k : Int) + 1) * (b : Int)) : a = b := by
  have := Int.eq_of_mul_eq_mul_left (by omega) h
  omega
theorem way0 {row : List Nat} {spot : Nat} (h : Row row) (hs : spot ≤ row.length) (ok : Ok126 (row.take spot ++ [120] ++ row.drop (spot + 1))) (e : num row = num (row.take spot ++ [120] ++ row.drop (spot + 1))) : False := by
  obtain ⟨e1, e2⟩ := num_eq (row_ok h) ok e
  have hs' : spot < row.length := by
    rw [List.length_append, List.length_append, List.length_take, List.length_drop] at e1
    simp at e1
    omega
  have hm := getD_mem hs'
  have e3 : wsum 0 row = wsum 0 (row.take spot ++ row.getD spot 0 :: row.drop (spot + 1)) := congrArg _ (split1 hs')
  rw [e3, List.append_assoc, wsum_app, wsum_app] at e2
  have hl : (row.take spot).length = spot := by rw [List.length_take]; omega
  rw [hl] at e2
  have e4 : (((0 + spot : Nat) : Int) + 1) * (row.getD spot 0 : Int) + wsum (0 + spot + 1) (row.drop (spot + 1)) = (((0 + spot : Nat) : Int) + 1) * ((120 : Nat) : Int) + wsum (0 + spot + 1) (row.drop (spot + 1)) := Int.add_left_cancel e2
  have e5 : (((0 + spot : Nat) : Int) + 1) * (row.getD spot 0 : Int) = (((0 + spot : Nat) : Int) + 1) * ((120 : Nat) : Int) := by
    generalize (((0 + spot : Nat) : Int) + 1) * (row.getD spot 0 : Int) = x at *
    generalize (((0 + spot : Nat) : Int) + 1) * ((120 : Nat) : Int) = y at *
    omega
  exact sign_ne (h.2 _ hm) (mul_same e5)
theorem split2 {row : List Nat} {s f : Nat} (h : s < f) (hf : f < row.length) : row = row.take s ++ [row.getD s 0] ++ (row.drop (s + 1)).take (f - (s + 1)) ++ ([row.getD f 0] ++ row.drop (f + 1)) := by
  have e1 : row.drop (s + 1) = (row.drop (s + 1)).take (f - (s + 1)) ++ row.getD f 0 :: row.drop (f + 1) := by
    have hl : f - (s + 1) < (row.drop (s + 1)).length := by rw [List.length_drop]; omega
    have e := split1 hl
    have e3 : (row.drop (s + 1)).getD (f - (s + 1)) 0 = row.getD f 0 := by
      rw [List.getD_eq_getElem?_getD, List.getD_eq_getElem?_getD, List.getElem?_drop, show s + 1 + (f - (s + 1)) = f by omega]
    rw [e3, List.drop_drop, show s + 1 + (f - (s + 1) + 1) = f + 1 by omega] at e
    exact e
  have e2 := split1 (show s < row.length by omega)
  rw [e1] at e2
  rw [List.append_assoc, List.append_assoc]
  exact e2
theorem way1 {row : List Nat} {s f : Nat} (h : Row row) (hs : s < f) (hf : f < row.length) (ok : Ok126 (row.take s ++ [row.getD f 0] ++ (row.drop (s + 1)).take (f - (s + 1)) ++ ([row.getD s 0] ++ row.drop (f + 1))))
    (e : num row = num (row.take s ++ [row.getD f 0] ++ (row.drop (s + 1)).take (f - (s + 1)) ++ ([row.getD s 0] ++ row.drop (f + 1)))) : row.getD s 0 = row.getD f 0 := by
  obtain ⟨e1, e2⟩ := num_eq (row_ok h) ok e
  have e3 : wsum 0 row = wsum 0 (row.take s ++ [row.getD s 0] ++ (row.drop (s + 1)).take (f - (s + 1)) ++ ([row.getD f 0] ++ row.drop (f + 1))) := congrArg _ (split2 hs hf)
  rw [e3] at e2
  have hl : (row.take s).length = s := by rw [List.length_take]; omega
  have hl2 : ((row.drop (s + 1)).take (f - (s + 1))).length = f - (s + 1) := by rw [List.length_take, List.length_drop]; omega
  generalize hA : row.take s = A at *
  generalize hB : (row.drop (s + 1)).take (f - (s + 1)) = B at *
  generalize hC : row.drop (f + 1) = C at *
  generalize row.getD s 0 = a at *
  generalize row.getD f 0 = b at *
  rw [wsum_app, wsum_app, wsum_app, wsum_app, wsum_app 0 (A ++ [b] ++ B), wsum_app 0 (A ++ [b]), wsum_app 0 A [b], wsum_app _ [a] C] at e2
  simp only [List.length_append, List.length_cons, List.length_nil, hl, hl2] at e2
  have ef : 0 + (s + (0 + 1) + (f - (s + 1))) = f := by omega
  rw [ef] at e2
  have w1 : ∀ (k c : Nat), wsum k [c] = ((k : Int) + 1) * (c : Int) := fun k c => by
    show ((k : Int) + 1) * (c : Int) + 0 = _
    omega
  rw [w1, w1, w1, w1] at e2
  have e5 : ((((0 + s : Nat) : Int) + 1) * (a : Int)) + (((f : Int) + 1) * (b : Int)) = ((((0 + s : Nat) : Int) + 1) * (b : Int)) + (((f : Int) + 1) * (a : Int)) := by omega
  have e6 : ((f : Int) - (s : Int)) * ((b : Int) - (a : Int)) = 0 := by
    rw [Nat.zero_add] at e5
    rw [Int.sub_mul, Int.mul_sub, Int.mul_sub]
    rw [Int.add_mul, Int.add_mul, Int.add_mul, Int.add_mul] at e5
    omega
  rcases Int.mul_eq_zero.mp e6 with q | q <;> omega
theorem rowOf_facts {way spot far : Nat} {row : List Nat} (h : Row row) (hs : spot ≤ row.length) :
    row.length ≤ (rowOf way spot far row).length ∧ Ok126 (rowOf way spot far row) ∧ 10 ∉ rowOf way spot far row ∧ (num row = num (rowOf way spot far row) → rowOf way spot far row = row) := by
  unfold rowOf
  split
  · have ok : Ok126 (row.take spot ++ [120] ++ row.drop (spot + 1)) := by
      refine ⟨?_, ?_⟩
      · have := h.1
        rw [List.length_append, List.length_append, List.length_take, List.length_drop]
        simp
        omega
      · intro c hc
        rcases List.mem_append.mp hc with hc | hc
        · rcases List.mem_append.mp hc with hc | hc
          · exact sign_le (h.2 c (List.mem_of_mem_take hc))
          · rw [List.mem_singleton.mp hc]
            decide
        · exact sign_le (h.2 c (List.mem_of_mem_drop hc))
    refine ⟨?_, ok, ?_, fun e => (way0 h hs ok e).elim⟩
    · rw [List.length_append, List.length_append, List.length_take, List.length_drop]
      simp
      omega
    · intro hc
      rcases List.mem_append.mp hc with hc | hc
      · rcases List.mem_append.mp hc with hc | hc
        · exact no10 h (List.mem_of_mem_take hc)
        · have := List.mem_singleton.mp hc
          omega
      · exact no10 h (List.mem_of_mem_drop hc)
  · split
    · rename_i hw
      obtain ⟨_, hsf, hf⟩ := hw
      have hmem : ∀ c ∈ row.take spot ++ [row.getD far 0] ++ (row.drop (spot + 1)).take (far - (spot + 1)) ++ ([row.getD spot 0] ++ row.drop (far + 1)), c ∈ row := by
        intro c hc
        rcases List.mem_append.mp hc with hc | hc
        · rcases List.mem_append.mp hc with hc | hc
          · rcases List.mem_append.mp hc with hc | hc
            · exact List.mem_of_mem_take hc
            · rw [List.mem_singleton.mp hc]
              exact getD_mem hf
          · exact List.mem_of_mem_drop (List.mem_of_mem_take hc)
        · rcases List.mem_append.mp hc with hc | hc
          · rw [List.mem_singleton.mp hc]
            exact getD_mem (by omega)
          · exact List.mem_of_mem_drop hc
      have hlen : (row.take spot ++ [row.getD far 0] ++ (row.drop (spot + 1)).take (far - (spot + 1)) ++ ([row.getD spot 0] ++ row.drop (far + 1))).length = row.length := by
        simp only [List.length_append, List.length_take, List.length_drop, List.length_cons, List.length_nil]
        omega
      have ok : Ok126 (row.take spot ++ [row.getD far 0] ++ (row.drop (spot + 1)).take (far - (spot + 1)) ++ ([row.getD spot 0] ++ row.drop (far + 1))) :=
        ⟨by rw [hlen]; exact (row_ok h).1, fun c hc => (row_ok h).2 c (hmem c hc)⟩
      refine ⟨by rw [hlen]; exact Nat.le_refl _, ok, fun hc => no10 h (hmem _ hc), fun e => ?_⟩
      have q := way1 h hsf hf ok e
      have z := split2 hsf hf
      rw [← q]
      rw [← q] at z
      exact z.symm
    · exact ⟨Nat.le_refl _, row_ok h, no10 h, fun _ => rfl⟩
theorem num_nil {q : List Nat} (h : num [] = num q) : q = [] := by
  have h1 : (([] : List Nat).length : Int) = (q.length : Int) := congrArg Prod.fst h
  have h2 : q.length = 0 := by simpa using h1.symm
  exact List.length_eq_zero_iff.mp h2
theorem all_nil : ∀ (D : List (List Nat)), ([] :: D).map num = (D ++ [[]]).map num → [] :: D = D ++ [[]]
  | [], _ => rfl
  | d :: D, h => by
    have h1 : num [] = num d := (List.cons.inj h).1
    have h2 : (d :: D).map num = (D ++ [[]]).map num := (List.cons.inj h).2
    have hd := num_nil h1
    subst hd
    show [] :: ([] :: D) = [] :: (D ++ [[]])
    rw [all_nil D h2]
def Chg (L : List (List Nat)) (m : List Nat) : Prop := m.length ≤ 100 ∧ ((glue 10 L).length = m.length → glue 10 L ≠ m → (cutAt 10 (glue 10 L)).length = (cutAt 10 m).length → nums (glue 10 L) ≠ nums m)
theorem glue_snoc : ∀ (M : List (List Nat)), M ≠ [] → glue 10 (M ++ [[]]) = glue 10 M ++ [10]
  | [], h => absurd rfl h
  | [p], _ => rfl
  | p :: q :: r, _ => by
    show p ++ 10 :: glue 10 ((q :: r) ++ [[]]) = p ++ 10 :: glue 10 (q :: r) ++ [10]
    rw [glue_snoc (q :: r) (by simp)]
    simp
theorem cut_more : ∀ (l : List Nat) (c : Nat), c ≠ 10 → (cutAt 10 (l ++ [c])).length = (cutAt 10 l).length
  | [], c, h => by
    show (cutAt 10 [c]).length = _
    rw [cutAt_plain 10 [c] (by simp; omega)]
    rfl
  | a :: l, c, h => by
    have ih := cut_more l c h
    show (cutAt 10 (a :: (l ++ [c]))).length = _
    unfold cutAt
    by_cases ha : a = 10
    · rw [if_pos ha, if_pos ha]
      simp [ih]
    · rw [if_neg ha, if_neg ha]
      cases e1 : cutAt 10 (l ++ [c]) with
      | nil => exact absurd e1 (cutAt_ne _ _)
      | cons p q =>
        cases e2 : cutAt 10 l with
        | nil => exact absurd e2 (cutAt_ne _ _)
        | cons p' q' =>
          rw [e1, e2] at ih
          simpa using ih
theorem glue_sum {L : List (List Nat)} (h : L ≠ []) : (glue 10 L).length + 1 = (L.map List.length).sum + L.length := by
  have e := glue_len 10 L
  rw [if_neg h] at e
  have q : ∀ L : List (List Nat), (L.map fun p => p.length + 1).sum = (L.map List.length).sum + L.length := by
    intro L
    induction L with
    | nil => rfl
    | cons p r ih =>
      rw [List.map_cons, List.sum_cons, List.map_cons, List.sum_cons, List.length_cons, ih]
      omega
  rw [q] at e
  omega
theorem splitL {L : List (List Nat)} {i : Nat} {row : List Nat} (h : L[i]? = some row) : L = L.take i ++ row :: L.drop (i + 1) := by
  obtain ⟨hi, e⟩ := List.getElem?_eq_some_iff.mp h
  rw [← e, ← List.drop_eq_getElem_cons hi, List.take_append_drop]
theorem cut_sfx {M : List (List Nat)} {sfx : List Nat} (h : M ≠ []) (hp : ∀ p ∈ M, 10 ∉ p) (hs : sfx ∈ [[], [10], [32]]) : (cutAt 10 (glue 10 M ++ sfx)).length = M.length + (if sfx = [10] then 1 else 0) := by
  have hc := cutAt_glue 10 M h hp
  rcases List.mem_cons.mp hs with e | hs
  · rw [e, List.append_nil, hc]
    rfl
  · rcases List.mem_cons.mp hs with e | hs
    · rw [e, ← glue_snoc M h, cutAt_glue 10 (M ++ [[]]) (by simp) fun p q => ?_]
      · rw [List.length_append]
        rfl
      · rcases List.mem_append.mp q with q | q
        · exact hp p q
        · rw [List.mem_singleton.mp q]
          simp
    · rw [List.mem_singleton.mp hs, cut_more _ _ (by decide), hc]
      rfl
theorem piece_no {way spot : Nat} {r : List Nat} (h : 10 ∉ r) : ∀ p ∈ piece way spot r, 10 ∉ p := by
  intro p hp
  unfold piece at hp
  split at hp
  · rcases List.mem_cons.mp hp with e | hp
    · rw [e]
      have : spot % 2 < 2 := Nat.mod_lt _ (by decide)
      have : spot % 2 = 0 ∨ spot % 2 = 1 := by omega
      rcases this with q | q
      · rw [q]; decide
      · rw [q]; decide
    · rw [List.mem_singleton.mp hp]
      exact h
  · split at hp
    · cases hp
    · rw [List.mem_singleton.mp hp]
      exact h
/-- what is made of a text: never unseen, if it has as many signs and rows -/
theorem made_chg {L : List (List Nat)} {m : List Nat} (hL : Rows L) (h : Made L m) : Chg L m := by
  obtain ⟨way, i, spot, far, row, sfx, hrow, hs, hf, hsfx, h⟩ := h
  have hcut : cutAt 10 (glue 10 L) = L := cutAt_glue 10 L hL.1 fun p hp => no10 (hL.2.2 p hp)
  have hg : (glue 10 L).length ≤ 54 := Nat.le_trans (glue_le fun p hp => (hL.2.2 p hp).1) (by have := hL.2.1; omega)
  rcases h with ⟨w5, rfl⟩ | rfl
  · have hR := hL.2.2 row (List.mem_of_getElem? hrow)
    obtain ⟨f1, f2, f3, f4⟩ := rowOf_facts (way := way) (far := far) hR hs
    generalize rowOf way spot far row = r at *
    have hsl := splitL hrow
    have hA : ∀ p ∈ L.take i, Row p := fun p hp => hL.2.2 p (List.mem_of_mem_take hp)
    have hD : ∀ p ∈ L.drop (i + 1), Row p := fun p hp => hL.2.2 p (List.mem_of_mem_drop hp)
    have hAl : (L.take i).length + 1 + (L.drop (i + 1)).length = L.length := by
      have := congrArg List.length hsl
      rw [List.length_append, List.length_cons] at this
      omega
    generalize hAe : L.take i = A at *
    generalize hDe : L.drop (i + 1) = D at *
    have hM9 : ∀ p ∈ A ++ piece way spot r ++ D, p.length ≤ 9 := by
      intro p hp
      rcases List.mem_append.mp hp with hp | hp
      · rcases List.mem_append.mp hp with hp | hp
        · exact Nat.le_trans (hA p hp).1 (by decide)
        · exact piece_le f2.1 p hp
      · exact Nat.le_trans (hD p hp).1 (by decide)
    have hM10 : ∀ p ∈ A ++ piece way spot r ++ D, 10 ∉ p := by
      intro p hp
      rcases List.mem_append.mp hp with hp | hp
      · rcases List.mem_append.mp hp with hp | hp
        · exact no10 (hA p hp)
        · exact piece_no f3 p hp
      · exact no10 (hD p hp)
    have hsl1 : sfx.length ≤ 1 := by
      rcases List.mem_cons.mp hsfx with e | e
      · rw [e]; decide
      · rcases List.mem_cons.mp e with e | e
        · rw [e]; decide
        · rw [List.mem_singleton.mp e]; decide
    have hL6 := hL.2.1
    have hMl : (A ++ piece way spot r ++ D).length ≤ 7 := by
      rw [List.length_append, List.length_append]
      have := piece_len way spot r
      omega
    refine ⟨?_, ?_⟩
    · rw [List.length_append]
      have := glue_le hM9
      omega
    · intro e1 e2 e3 e4
      rw [hcut] at e3
      have hsum := glue_sum hL.1
      have hsumL : (L.map List.length).sum = (A.map List.length).sum + (row.length + (D.map List.length).sum) := by
        rw [hsl, List.map_append, List.sum_append, List.map_cons, List.sum_cons]
      have hLn : nums (glue 10 L) = A.map num ++ num row :: D.map num := by
        unfold nums
        rw [hcut, hsl, List.map_append, List.map_cons]
      rw [hLn] at e4
      by_cases w2 : way = 2
      · have hp : piece way spot r = [[[], [110, 101, 119]].getD (spot % 2) [], r] := by unfold piece; rw [if_pos w2]
        rw [hp] at hM10 e1 e2 e3 e4
        rw [cut_sfx (by simp) hM10 hsfx] at e3
        simp only [List.length_append, List.length_cons, List.length_nil] at e3
        omega
      · by_cases w3 : way = 3
        · have hp : piece way spot r = [] := by unfold piece; rw [if_neg w2, if_pos w3]
          rw [hp] at hM10 e1 e2 e3 e4
          rw [List.append_nil] at hM10 e1 e2 e3 e4
          by_cases hn : A ++ D = []
          · have hA0 : A = [] := (List.append_eq_nil_iff.mp hn).1
            have hD0 : D = [] := (List.append_eq_nil_iff.mp hn).2
            subst hA0 hD0
            rw [hsl] at e1 e2 e3
            have g1 : glue 10 ([] ++ row :: []) = row := rfl
            rw [g1] at e1 e2
            have g2 : glue 10 ([] ++ []) ++ sfx = sfx := rfl
            rw [g2] at e1 e2 e3 e4
            rcases List.mem_cons.mp hsfx with e | e
            · rw [e] at e1 e2
              exact e2 (List.length_eq_zero_iff.mp e1)
            · rcases List.mem_cons.mp e with e | e
              · rw [e] at e3
                have e3' : 1 = (cutAt 10 [10]).length := e3
                exact absurd e3' (by decide)
              · have es := List.mem_singleton.mp e
                rw [es] at e1 e2 e4
                obtain ⟨c, rfl⟩ := List.length_eq_one_iff.mp e1
                have e5 : num [c] = num [32] := (List.cons.inj e4).1
                have ok : Ok126 [32] := ⟨by decide, by decide⟩
                have e6 := (num_eq (row_ok hR) ok e5).2
                have e7 : c = 32 := by
                  have : (0 + 1) * (c : Int) + 0 = (0 + 1) * ((32 : Nat) : Int) + 0 := e6
                  omega
                exact e2 (by rw [e7])
          · have h3 := cut_sfx hn hM10 hsfx
            rw [h3, List.length_append] at e3
            have hs10 : sfx = [10] := by
              by_cases q : sfx = [10]
              · exact q
              · rw [if_neg q] at e3
                omega
            subst hs10
            have hg2 := glue_sum hn
            rw [List.map_append, List.sum_append, List.length_append] at hg2
            rw [List.length_append] at e1
            have hr0 : row.length = 0 := by
              have : ([10] : List Nat).length = 1 := rfl
              omega
            have hr := List.length_eq_zero_iff.mp hr0
            subst hr
            have hm : nums (glue 10 (A ++ D) ++ [10]) = A.map num ++ (D ++ [[]]).map num := by
              unfold nums
              rw [← glue_snoc _ hn, cutAt_glue 10 (A ++ D ++ [[]]) (by simp) fun p q => ?_]
              · rw [List.append_assoc, List.map_append]
              · rcases List.mem_append.mp q with q | q
                · exact hM10 p q
                · rw [List.mem_singleton.mp q]
                  simp
            rw [hm] at e4
            have e5 := all_nil D (List.append_cancel_left e4)
            refine e2 ?_
            rw [hsl, ← glue_snoc _ hn, List.append_assoc, ← e5]
        · have hp : piece way spot r = [r] := by unfold piece; rw [if_neg w2, if_neg w3]
          rw [hp] at hM10 e1 e2 e3 e4
          have hn : A ++ [r] ++ D ≠ [] := by simp
          have hg2 := glue_sum hn
          rw [List.length_append] at e1
          simp only [List.map_append, List.sum_append, List.length_append, List.map_cons, List.map_nil, List.sum_cons, List.sum_nil, List.length_cons, List.length_nil] at hg2
          have hs0 : sfx = [] := List.length_eq_zero_iff.mp (by omega)
          subst hs0
          have hm : nums (glue 10 (A ++ [r] ++ D) ++ []) = A.map num ++ num r :: D.map num := by
            unfold nums
            rw [List.append_nil, cutAt_glue 10 _ hn hM10, List.append_assoc, List.map_append]
            rfl
          rw [hm] at e4
          have e5 := (List.cons.inj (List.append_cancel_left e4)).1
          refine e2 ?_
          rw [List.append_nil, f4 e5, hsl, List.append_assoc]
          rfl
  · exact ⟨by omega, fun _ h => absurd rfl h⟩
end K79
/-! K79I -/
set_option Elab.async false
set_option linter.all false
set_option maxRecDepth 100000
set_option maxHeartbeats 4000000
namespace K79
open PySem PySem.Spec PyProof.Rows L2 My He
def spRight : Sp := fun vs H Q _ => ∃ l, vs = [.ref l] ∧ StAt H l ∧ ∀ H', But l H H' → StAt H' l → Q (.bl true) H'
theorem firstD_none : ∀ (a b : List (Int × Int)) (k : Nat), firstD a b k = none ↔ a = b
  | [], [], _ => by simp [firstD]
  | [], _ :: _, _ => by simp [firstD]
  | _ :: _, [], _ => by simp [firstD]
  | a :: r, b :: s, k => by
    unfold firstD
    by_cases e : a = b
    · rw [if_pos e, firstD_none r s (k + 1), e]
      simp
    · rw [if_neg e]
      simp [e]
theorem firstD_symm : ∀ (a b : List (Int × Int)) (k : Nat), firstD a b k = firstD b a k
  | [], [], _ => rfl
  | [], _ :: _, _ => rfl
  | _ :: _, [], _ => rfl
  | a :: r, b :: s, k => by
    unfold firstD
    by_cases e : a = b
    · rw [if_pos e, if_pos e.symm, firstD_symm r s (k + 1)]
    · rw [if_neg e, if_neg fun q => e q.symm]
theorem scal_opt (d : Option Nat) : scal (optV d) (optV d) = true := by
  cases d <;> rfl
section
variable {P : Program} {w : World} {K : PySem.W.Frag} {mg : Str → Option Value} {base : Heap}
theorem shp_ints {l : List Int} : Shp 1 (.tuple (l.map PyData.int)) := by
  refine shp_tup fun d hd => ?_
  obtain ⟨n, _, rfl⟩ := List.mem_map.mp hd
  exact shp_int n
theorem eqv_ints (l m : List Int) : PyData.eqv (.tuple (l.map PyData.int)) (.tuple (m.map PyData.int)) = decide (l = m) := eqvAll_map (f := PyData.int) (fun a b => by
  show (a == b) = _
  rw [Bool.eq_iff_iff]
  simp) l m
theorem dp_mapI {H : Hp} {a : Addr} {l : List Int} (h : H a = some (.tup (l.map V.int))) : Dp K H (.ref a) (.tuple (l.map PyData.int)) := .tup (SqT.of h) (dpAll_ints l)
theorem ok_law_right (T : Txt K mg) : FnOk P w K mg base CX0 6 (d_law_right.adr K) (fdAt K (d_law_right.adr K)) ["stream"] spRight := by
  refine T.f_law_right.F.ok0 sc_law_right (fun vs H Q E h => ?_) (fun cdv A outer s H vs Q E hr h => ?_)
  · obtain ⟨l, rfl, _⟩ := h
    rfl
  · obtain ⟨l, rfl, st, k⟩ := h
    refine ⟨_, (pss_cons (ps_set (i := 1) sc_law_right.nd rfl (Or.inl rfl) (pe_call (ok_law_text T) (hr.mono (by decide)) (by rfl) T.m_law_text T.f_law_text.F.kp T.f_law_text.b .nil pass0 (pa_cons (pv 0) pa_nil)))
      (pss_cons (ps_asg (pe_tup (pa_cons (pe_call (ok_law_changed T) (hr.mono (by decide)) (by rfl) T.m_law_changed T.f_law_changed.F.kp T.f_law_changed.b .nil pass0 (pa_cons (pv 0) (pa_cons (pv 1) pa_nil))) (pa_cons (pe_make T.k_Fingerprint (ok_Fingerprint_init T) (hr.mono (by decide)) (by rfl) T.m_Fingerprint T.f_Fingerprint_init.b .nil pass0 (pa_cons (pv 1) pa_nil)) (pa_cons (pe_call (ok_law_rows T) (hr.mono (by decide)) (by rfl) T.m_law_rows T.f_law_rows.F.kp T.f_law_rows.b .nil pass0 (pa_cons (pv 1) pa_nil)) pa_nil)))) (pg_tupK K rfl (pgs_cons (pg_name (i := 2) sc_law_right.nd rfl (Or.inl rfl)) (pgs_cons (pg_name (i := 3) sc_law_right.nd rfl (Or.inr rfl)) (pgs_cons (pg_name (i := 4) sc_law_right.nd rfl (Or.inl rfl)) pgs_nil)))))
      (pss_cons (ps_if (PW.pt (pw_or (pt_cmpR (op_neDK K hr.units) (pe_lc (own := [("at", 6)]) (g := (gName 6)) (tt := tYes) (by rfl) sc_law_right.nd (pi_range1 (by rfl) T.n_range (pa_cons (pe_callB (call_lenOwn (ok_Fingerprint_len T) (hr.mono (by decide)) T.M_Fingerprint_len.at_ T.M_Fingerprint_len.fn T.f_Fingerprint_len.b pass0) (by rfl) T.n_len (by decide +kernel) (pa_cons (pv 3) pa_nil)) pa_nil)) (blkOk_by (own := [("at", 6)]) (N := ["stream", "one", "other", "prints", "rows", "due", "at", "row"]) (sc := defScope s_law_right) (by decide +kernel)) (fun _ _ _ _ _ => (pg_name (i := 6) sc_law_right.nd rfl (Or.inl rfl))) (fun _ _ _ _ _ => pts_nil) (fun _ _ _ _ _ => (pe_ixOwn (ok_Fingerprint_getitem T) (hr.mono (by decide)) T.M_Fingerprint_getitem.at_ T.M_Fingerprint_getitem.fn (fnIn_of T.f_Fingerprint_getitem.F) T.f_Fingerprint_getitem.b pass0 (pv 3) (pv 6) (fun _ _ => by with_unfolding_all rfl)))) (pv 4) (nomark _)) (pw_or1 (pt_cmpR (op_neDK K hr.units) (pe_prop (pv 3) T.c_Fingerprint T.p_Fingerprint_lengths (ok_Fingerprint_lengths T) (hr.mono (by decide)) T.f_Fingerprint_lengths.b .nil pass0 (by rfl)) (pe_callTy (call_tuple_ofK K) (by rfl) T.n_tuple (by decide +kernel) (pa_cons (pe_lc (own := [("row", 7)]) (g := (gName 7)) (tt := tYes) (by rfl) sc_law_right.nd (pi_listK K (pv 4)) (blkOk_by (own := [("row", 7)]) (N := ["stream", "one", "other", "prints", "rows", "due", "at", "row"]) (sc := defScope s_law_right) (by decide +kernel)) (fun _ _ _ _ _ => (pg_name (i := 7) sc_law_right.nd rfl (Or.inl rfl))) (fun _ _ _ _ _ => pts_nil) (fun _ _ _ _ _ => (pe_ix (ix_tupK K) (pv 7) pe_int (fun _ _ => rfl)))) pa_nil)) (nomark _)))))
      (pss_one (ps_ret pe_bl))
      pss_nil)
      (pss_cons (ps_if (PW.pt (pw_or (pt_cmpR (op_neDK K hr.units) (pe_prop (pv 3) T.c_Fingerprint T.p_Fingerprint_checksums (ok_Fingerprint_checksums T) (hr.mono (by decide)) T.f_Fingerprint_checksums.b .nil pass0 (by rfl)) (pe_callTy (call_tuple_ofK K) (by rfl) T.n_tuple (by decide +kernel) (pa_cons (pe_lc (own := [("row", 7)]) (g := (gName 7)) (tt := tYes) (by rfl) sc_law_right.nd (pi_listK K (pv 4)) (blkOk_by (own := [("row", 7)]) (N := ["stream", "one", "other", "prints", "rows", "due", "at", "row"]) (sc := defScope s_law_right) (by decide +kernel)) (fun _ _ _ _ _ => (pg_name (i := 7) sc_law_right.nd rfl (Or.inl rfl))) (fun _ _ _ _ _ => pts_nil) (fun _ _ _ _ _ => (pe_ix (ix_tupK K) (pv 7) pe_int (fun _ _ => rfl)))) pa_nil)) (nomark _)) (pw_or1 (pt_cmpR op_notN (pe_meth (pv 3) T.c_Fingerprint T.M_Fingerprint_first_stale (ok_Fingerprint_first_stale T) (hr.mono (by decide)) T.f_Fingerprint_first_stale.b .nil pass0 (pa_cons (pv 1) pa_nil)) pe_non (nomark _)))))
      (pss_one (ps_ret pe_bl))
      pss_nil)
      (pss_cons (ps_set (i := 5) sc_law_right.nd rfl (Or.inl rfl) (pe_call (ok_law_first T) (hr.mono (by decide)) (by rfl) T.m_law_first T.f_law_first.F.kp T.f_law_first.b .nil pass0 (pa_cons (pv 1) (pa_cons (pv 2) pa_nil))))
      (pss_cons (ps_if (PW.pt (pw_or (pt_cmpR op_ne (pe_meth (pv 3) T.c_Fingerprint T.M_Fingerprint_first_stale (ok_Fingerprint_first_stale T) (hr.mono (by decide)) T.f_Fingerprint_first_stale.b .nil pass0 (pa_cons (pv 2) pa_nil)) (pv 5) (nomark _)) (pw_or1 (pt_cmpR op_ne (pe_meth (pe_make T.k_Fingerprint (ok_Fingerprint_init T) (hr.mono (by decide)) (by rfl) T.m_Fingerprint T.f_Fingerprint_init.b .nil pass0 (pa_cons (pv 2) pa_nil)) T.c_Fingerprint T.M_Fingerprint_first_stale (ok_Fingerprint_first_stale T) (hr.mono (by decide)) T.f_Fingerprint_first_stale.b .nil pass0 (pa_cons (pv 1) pa_nil)) (pv 5) (nomark _)))))
      (pss_one (ps_ret pe_bl))
      pss_nil)
      (pss_cons (ps_if (PW.pt (pw_or (pt_cmpR op_ne (pe_cmpR (op_eqOwn (ok_Fingerprint_eq T) (hr.mono (by decide)) T.M_Fingerprint_eq.at_ T.M_Fingerprint_eq.fn T.f_Fingerprint_eq.b pass0) (pv 3) (pe_make T.k_Fingerprint (ok_Fingerprint_init T) (hr.mono (by decide)) (by rfl) T.m_Fingerprint T.f_Fingerprint_init.b .nil pass0 (pa_cons (pv 2) pa_nil)) (nomark _)) (pe_cmpR op_isN (pv 5) pe_non (nomark _)) (nomark _)) (pw_or (pt_cmpR (op_eqOwn (ok_Fingerprint_eq T) (hr.mono (by decide)) T.M_Fingerprint_eq.at_ T.M_Fingerprint_eq.fn T.f_Fingerprint_eq.b pass0) (pv 3) (pv 4) (nomark _)) (pw_or1 (pt_cmpR (op_eqOwn (ok_Fingerprint_eq T) (hr.mono (by decide)) T.M_Fingerprint_eq.at_ T.M_Fingerprint_eq.fn T.f_Fingerprint_eq.b pass0) (pv 3) (pv 1) (nomark _))))))
      (pss_one (ps_ret pe_bl))
      pss_nil)
      (pss_one (ps_ret (pe_ifExp (PW.pt (pw_and (pt_cmpR op_eq (pe_callB call_len_str (by rfl) T.n_len (by decide +kernel) (pa_cons (pv 1) pa_nil)) (pe_callB call_len_str (by rfl) T.n_len (by decide +kernel) (pa_cons (pv 2) pa_nil)) (nomark _)) (pw_and (pt_cmpR op_ne (pv 1) (pv 2) (nomark _)) (pw_and1 (pt_cmpR op_eq (pe_m1 PySem.F.slot_str_count PySem.F.type_str_count mt_count (pv 1) pe_str) (pe_m1 PySem.F.slot_str_count PySem.F.type_str_count mt_count (pv 2) pe_str) (nomark _)))))) (pe_cmpR op_notN (pv 5) pe_non (nomark _)) pe_bl)))))))))), ?_⟩
    refine ⟨_, rfl, l, rfl, st, fun L H1 hL b1 st1 => ?_⟩
    have hg : (glue 10 L).length ≤ 54 := Nat.le_trans (glue_le fun p hp => (hL.2.2 p hp).1) (by have := hL.2.1; omega)
    refine ⟨_, rfl, _, rfl, l, L, rfl, hL, st1, fun m H2 b2 st2 hm => ?_⟩
    have hc := made_chg hL hm
    have hm1 := hc.1
    refine ⟨_, rfl, fun x dx hx hdx ne => ⟨x, dx, glue 10 L, rfl, upd_same, by omega, fun H3 b3 f3 => ⟨rfl, ?_⟩⟩⟩
    have s3 : Same H2 H3 := fun a o h => b3 a o (by rw [upd_ne (ne_of_none h hx), upd_ne (ne_of_none h hdx)]; exact h) (ne_of_none h hx)
    refine ⟨_, rfl, glue 10 L, rfl, by omega, fun p xs H4 s4 np hp dp => ?_⟩
    refine ⟨(by show 3 ≤ sizeLine; decide), fun t ht => ?_⟩
    refine ⟨t, _, rfl, SqT.of upd_same, rfl, _, _, rfl, _, _, rfl, _, _, rfl, rfl, ?_⟩
    have f5 := (f3.same s4).same (Same.one H4 (o := .tup [.str (tx m), .ref x, .ref p]) ht)
    have p5 := Same.one H4 (o := .tup [.str (tx m), .ref x, .ref p]) ht _ _ hp
    have d5 := dpAll_same (Same.one H4 (o := .tup [.str (tx m), .ref x, .ref p]) ht) dp
    have st5 := ((st2.of s3).of s4).of (Same.one H4 (o := .tup [.str (tx m), .ref x, .ref p]) ht)
    have b5 : But l H (L2.upd H4 t (.tup [.str (tx m), .ref x, .ref p])) := But.trans b1 (But.trans b2 (But.of (Same.trans s3 (Same.trans s4 (Same.one H4 ht)))))
    generalize L2.upd H4 t (.tup [.str (tx m), .ref x, .ref p]) = H5 at *
    have hns : (nums (glue 10 L)).length ≤ 1000001 := by rw [nums_len]; exact Nat.le_trans (cut_len _) (by omega)
    have hnm : (nums m).length ≤ 1000001 := by rw [nums_len]; exact Nat.le_trans (cut_len _) (by omega)
    obtain ⟨dy, u, y1, y2⟩ := f5.dp
    refine ⟨_, rfl, x, _, _, rfl, y1, x, _, rfl, f5, _, rfl, ⟨by omega, by omega⟩, ?_⟩
    refine ⟨_, rfl, by omega, by omega, fun D hD => ?_⟩
    rw [Int.toNat_natCast]
    refine lc_map (K := K) (walk_range (lo := 0) (n := (nums (glue 10 L)).length)) (prs (nums (glue 10 L))) hD (prs_len _) (Nat.lt_of_le_of_lt hns (by decide)) (fun _ _ => trivial) ?_ ?_
    · rintro i y d acc H6 H7 Done hi s6 hv ⟨rfl, rfl⟩ done
      obtain ⟨n, hn, rfl⟩ := prs_get' hi
      refine ⟨rfl, ?_⟩
      refine ⟨_, rfl, _, rfl, x, _, _, rfl, s6 _ _ y1, x, nums (glue 10 L), i, n, (by show [V.ref x, V.int (0 + (i : Int))] = _; rw [Int.zero_add]), f5.same s6, hns, hn, fun q hq => ?_⟩
      exact done _ _ (Same.refl _) (hq _ (hide_le D _) (f5.same (hide_of hD s6)))
    · intro H6 vs s6 hv dv
      have s56 : Same H5 H6 := Same.trans s6 (hide_le D H6)
      refine ⟨_, rfl, _, _, .lst (SqL.of hv) (dpAll_same (hide_le D H6) dv), .lst (SqL.of (s56 _ _ p5)) (dpAll_same s56 d5), (shp_prsL _).shaped, (shp_prsL _).shaped, ?_⟩
      rw [show PyData.eqv (.list (prs (nums (glue 10 L)))) (.list (prs (nums (glue 10 L)))) = decide (nums (glue 10 L) = nums (glue 10 L)) from eqv_prsL _ _]
      refine ⟨_, rfl, ?_⟩
      refine iteND1 rfl ?_
      refine ⟨_, rfl, x, _, _, rfl, s56 _ _ y1, x, _, rfl, f5.same s56, hns, fun H7 t1 s7 ht1 => ?_⟩
      have s57 := Same.trans s56 s7
      refine ⟨_, rfl, p, rfl, ⟨_, SqL.of (s57 _ _ p5)⟩, fun D2 hD2 => ?_⟩
      refine lc_map (K := K) (J := Itl K p) (walk_list (K := K) (a := p) (xs := xs)) (((nums (glue 10 L)).map Prod.fst).map PyData.int) hD2 ?_ ?_ (fun H' s => SqL.of (s _ _ (s57 _ _ p5))) ?_ ?_
      · rw [List.length_map, List.length_map, dpAll_len d5, prs_len]
      · rw [dpAll_len d5, prs_len]
        exact Nat.lt_of_le_of_lt hns (by decide)
      · rintro i y d acc H8 H9 Done hi s8 hv ⟨rfl, hy⟩ done
        rw [List.map_map] at hi
        obtain ⟨n, hn, rfl⟩ := map_get hi
        obtain ⟨d, hd, dd⟩ := dpAll_get (dpAll_same (Same.trans s57 s8) d5) hy
        rw [prs_get hn] at hd
        cases hd
        obtain ⟨a, rfl, sa⟩ := dp_pair dd
        exact ⟨rfl, _, rfl, a, _, 0, .int n.1, rfl, rfl, sa, rfl, done _ _ (Same.refl _) (.int _)⟩
      · intro H8 vs2 s8 hv2 dv2
        have e2 := dpAll_mapI (f := id) (l := (nums (glue 10 L)).map Prod.fst) (by simpa using dv2)
        refine ⟨D2, _, rfl, .inl ⟨SqL.of hv2, fun t2 ht2 => ?_⟩⟩
        have s9 := Same.new (o := .tup vs2) (Same.trans s8 (hide_le D2 H8)) ht2
        have s59 := Same.trans s57 s9
        refine ⟨_, _, dp_mapI (l := (nums (glue 10 L)).map Prod.fst) ?_, dp_mapI (l := (nums (glue 10 L)).map Prod.fst) ?_, shp_ints.shaped, shp_ints.shaped, ?_⟩
        · rw [s9 _ _ ht1, List.map_map]
          rfl
        · rw [upd_same, e2]
          rfl
        rw [eqv_ints]
        refine ⟨_, rfl, ?_⟩
        refine iteND1 rfl ?_
        -- the checksums
        generalize L2.upd H8 t2 (.tup vs2) = H10 at *
        refine ⟨_, rfl, x, _, _, rfl, s59 _ _ y1, x, _, rfl, f5.same s59, hns, fun H11 t3 s11 ht3 => ?_⟩
        have s5b := Same.trans s59 s11
        refine ⟨_, rfl, p, rfl, ⟨_, SqL.of (s5b _ _ p5)⟩, fun D3 hD3 => ?_⟩
        refine lc_map (K := K) (J := Itl K p) (walk_list (K := K) (a := p) (xs := xs)) (((nums (glue 10 L)).map Prod.snd).map PyData.int) hD3 ?_ ?_ (fun H' s => SqL.of (s _ _ (s5b _ _ p5))) ?_ ?_
        · rw [List.length_map, List.length_map, dpAll_len d5, prs_len]
        · rw [dpAll_len d5, prs_len]
          exact Nat.lt_of_le_of_lt hns (by decide)
        · rintro i y d acc H12 H13 Done hi s12 hv ⟨rfl, hy⟩ done
          rw [List.map_map] at hi
          obtain ⟨n, hn, rfl⟩ := map_get hi
          obtain ⟨d, hd, dd⟩ := dpAll_get (dpAll_same (Same.trans s5b s12) d5) hy
          rw [prs_get hn] at hd
          cases hd
          obtain ⟨a, rfl, sa⟩ := dp_pair dd
          exact ⟨rfl, _, rfl, a, _, 1, .int n.2, rfl, rfl, sa, rfl, done _ _ (Same.refl _) (.int _)⟩
        · intro H12 vs3 s12 hv3 dv3
          have e3 := dpAll_mapI (f := id) (l := (nums (glue 10 L)).map Prod.snd) (by simpa using dv3)
          refine ⟨D3, _, rfl, .inl ⟨SqL.of hv3, fun t4 ht4 => ?_⟩⟩
          have s13 := Same.new (o := .tup vs3) (Same.trans s12 (hide_le D3 H12)) ht4
          have s5c := Same.trans s5b s13
          refine ⟨_, _, dp_mapI (l := (nums (glue 10 L)).map Prod.snd) ?_, dp_mapI (l := (nums (glue 10 L)).map Prod.snd) ?_, shp_ints.shaped, shp_ints.shaped, ?_⟩
          · rw [s13 _ _ ht3, List.map_map]
            rfl
          · rw [upd_same, e3]
            rfl
          rw [eqv_ints]
          refine ⟨_, rfl, ?_⟩
          refine iteND1 rfl ?_
          generalize L2.upd H12 t4 (.tup vs3) = H14 at *
          refine ⟨_, rfl, x, _, _, rfl, s5c _ _ y1, rfl, _, rfl, x, _, glue 10 L, rfl, f5.same s5c, hns, by omega, fun H15 s15 => ?_⟩
          have e4 : firstD (nums (glue 10 L)) (nums (glue 10 L)) 0 = none := (firstD_none _ _ _).mpr rfl
          rw [e4]
          refine ⟨rfl, _, rfl, ?_⟩
          refine iteND1 rfl ?_
          have s5d := Same.trans s5c s15
          refine ⟨_, rfl, _, rfl, glue 10 L, m, rfl, by omega, by omega, fun H16 s16 => ?_⟩
          have s5e := Same.trans s5d s16
          refine ⟨_, rfl, x, _, _, rfl, s5e _ _ y1, rfl, _, rfl, x, _, m, rfl, f5.same s5e, hns, by omega, fun H17 s17 => ?_⟩
          have s5f := Same.trans s5e s17
          have hdue : firstD (nums (glue 10 L)) (nums m) 0 = none ↔ nums (glue 10 L) = nums m := firstD_none _ _ _
          generalize hd : firstD (nums (glue 10 L)) (nums m) 0 = due at *
          have hsym : firstD (nums m) (nums (glue 10 L)) 0 = due := by rw [firstD_symm, hd]
          refine ⟨_, rfl, scal_opt due, _, rfl, ?_⟩
          refine iteND1 rfl ?_
          refine ⟨_, rfl, fun x2 dx2 hx2 hdx2 ne2 => ⟨x2, dx2, m, rfl, upd_same, by omega, fun H18 b18 f18 => ⟨rfl, ?_⟩⟩⟩
          have s18 : Same H17 H18 := fun a o h => b18 a o (by rw [upd_ne (ne_of_none h hx2), upd_ne (ne_of_none h hdx2)]; exact h) (ne_of_none h hx2)
          obtain ⟨dz, tz, z1, z2⟩ := f18.dp
          refine ⟨x2, _, _, rfl, z1, rfl, _, rfl, x2, _, glue 10 L, rfl, f18, hnm, by omega, fun H19 s19 => ?_⟩
          rw [hsym]
          refine ⟨_, rfl, scal_opt due, _, rfl, ?_⟩
          refine iteND1 rfl ?_
          have s5g := Same.trans s5f (Same.trans s18 s19)
          refine ⟨_, rfl, _, rfl, fun x3 dx3 hx3 hdx3 ne3 => ⟨x3, dx3, m, rfl, upd_same, by omega, fun H20 b20 f20 => ⟨rfl, ?_⟩⟩⟩
          have s20 : Same H19 H20 := fun a o h => b20 a o (by rw [upd_ne (ne_of_none h hx3), upd_ne (ne_of_none h hdx3)]; exact h) (ne_of_none h hx3)
          have s5h := Same.trans s5g s20
          obtain ⟨dw, tw, w1, w2⟩ := f20.dp
          refine ⟨x, _, _, _, rfl, s5h _ _ y1, T.t_Fingerprint.of T.c_Fingerprint w1, first_self, x, _, _, rfl, f5.same s5h, .inl ⟨x3, _, rfl, f20, _, rfl, ?_⟩⟩
          refine ⟨_, rfl, rfl, rfl, _, rfl, ?_⟩
          refine iteND1 ?_ ?_
          · congr 1
            rw [Bool.eq_iff_iff]
            rw [decide_eq_true_iff, decide_eq_true_iff, ← hdue]
            cases due with
            | none => simp [optV]
            | some q => simp [optV]
          refine ⟨_, rfl, _, rfl, x, _, _, _, rfl, s5h _ _ y1, .base (.lst (s5h _ _ p5)), T.a_Fingerprint_list.2, x, _, _, rfl, f5.same s5h, .inr (.inr ⟨p, _, rfl, s5h _ _ p5, _, rfl, _, rfl, ?_⟩)⟩
          refine iteF ?_
          refine ⟨_, rfl, _, rfl, x, _, _, _, rfl, s5h _ _ y1, .base (.str _), T.a_Fingerprint_str.2, x, _, _, rfl, f5.same s5h, .inr (.inl ⟨_, rfl, _, rfl, _, rfl, ?_⟩)⟩
          refine iteF ?_
          have fin := k _ (But.trans b5 (But.of s5h)) (st5.of s5h)
          have hz1 : (tx (glue 10 L)).length ≤ sizeLine := by rw [len_tx]; exact Nat.le_trans hg (by decide)
          have hz2 : (tx m).length ≤ sizeLine := by rw [len_tx]; exact Nat.le_trans hm1 (by decide)
          refine ⟨_, rfl, tx (glue 10 L), rfl, hz1, _, rfl, tx m, rfl, hz2, rfl, _, rfl, ?_⟩
          refine ite2 (fun q1 => ?_) fun _ => ?_
          · refine ⟨_, rfl, _, rfl, rfl, _, rfl, ?_⟩
            by_cases q2 : glue 10 L = m
            · refine iteND1 (by rw [q2]) ?_
              refine iteF ?_
              exact fin
            · refine iteND0 (fun e => q2 (tx_inj (V.str.inj e))) ?_
              refine ⟨_, rfl, ⟨_, rfl⟩, tx (glue 10 L), tx [10], rfl, rfl, _, rfl, ⟨_, rfl⟩, tx m, tx [10], rfl, rfl, ?_⟩
              rw [count_eq _ _ (by decide), count_eq _ _ (by decide)]
              refine ⟨rfl, _, rfl, ?_⟩
              refine ite2 (fun q3 => ?_) fun _ => ?_
              · have e1 : (glue 10 L).length = m.length := by
                  have := of_decide_eq_true q1
                  have e := V.int.inj this
                  rw [len_tx, len_tx] at e
                  omega
                have e2 : (cutAt 10 (glue 10 L)).length = (cutAt 10 m).length := by
                  have := of_decide_eq_true q3
                  have e := V.int.inj this
                  omega
                have hne := hc.2 e1 q2 e2
                refine ⟨_, rfl, rfl, ?_⟩
                have e3 : (!decide (optV due = V.non)) = true := by
                  cases due with
                  | none => exact absurd (hdue.mp rfl) hne
                  | some q => rfl
                rw [e3]
                exact fin
              · exact fin
          · refine iteF ?_
            exact fin
end
end K79
/-! K79J -/
set_option Elab.async false
set_option linter.all false
set_option maxRecDepth 100000
set_option maxHeartbeats 4000000
namespace K79
open PySem PySem.Spec PyProof.Rows L2 My He
def spLaw (K : PySem.W.Frag) : Sp := fun vs H Q _ => ∃ (a : Addr) (ns : List Int), vs = [.ref a] ∧ SqL K H a (ns.map V.int) ∧ ns.length ≤ 63 ∧ ∀ H', Q (.bl true) H'
theorem rep_tx (k : Nat) (acc : List Nat) : (List.replicate k (tx [126]).cps).foldl (· ++ ·) acc.toArray = (acc ++ List.replicate k 126).toArray := by
  induction k generalizing acc with
  | zero => simp
  | succ k ih =>
    rw [List.replicate_succ, List.foldl_cons]
    have e : acc.toArray ++ (tx [126]).cps = (acc ++ [126]).toArray := by simp
    rw [e, ih, List.append_assoc]
    rfl
theorem rep_txt (k : Nat) : (⟨(List.replicate k (tx [126]).cps).foldl (· ++ ·) #[]⟩ : Str) = tx (List.replicate k 126) := by
  show (⟨(List.replicate k (tx [126]).cps).foldl (· ++ ·) ([] : List Nat).toArray⟩ : Str) = _
  rw [rep_tx]
  rfl
theorem nums_long (k : Nat) : nums (List.replicate k 126 ++ [10]) = [num (List.replicate k 126), num []] := by
  unfold nums
  rw [cutAt_app 10 (List.replicate k 126) [] (fun h => by
    have := List.eq_of_mem_replicate h
    omega)]
  rfl
section
variable {P : Program} {w : World} {K : PySem.W.Frag} {mg : Str → Option Value} {base : Heap}
theorem ok_law (T : Txt K mg) : FnOk P w K mg base CX0 7 (d_law.adr K) (fdAt K (d_law.adr K)) ["script"] (spLaw K) := by
  refine T.f_law.F.ok0 sc_law (fun vs H Q E h => ?_) (fun cdv A outer s H vs Q E hr h => ?_)
  · obtain ⟨a, ns, rfl, _⟩ := h
    rfl
  · obtain ⟨a, ns, rfl, hS, hl, k⟩ := h
    refine ⟨_, (pss_cons (ps_for PassesOwn.never rfl (pi_range1 (by rfl) T.n_range (pa_cons (pe_callB (call_max2 rfl) (by rfl) T.n_max (by decide +kernel) (pa_cons pe_int (pa_cons (pe_callB (call_min2 rfl) (by rfl) T.n_min (by decide +kernel) (pa_cons (pe_callB (call_len_seqK K) (by rfl) T.n_len (by decide +kernel) (pa_cons (pv 0) pa_nil)) (pa_cons pe_int pa_nil))) pa_nil))) pa_nil)) (pg_name (i := 1) sc_law.nd rfl (Or.inl rfl))
      (pss_cons (ps_set (i := 2) sc_law.nd rfl (Or.inl rfl) (pe_call (ok_law_stream T) (hr.mono (by decide)) (by rfl) T.m_law_stream T.f_law_stream.F.kp T.f_law_stream.b .nil pass0 (pa_cons (pv 0) (pa_cons (pv 1) pa_nil))))
        (pss_one (ps_if (PW.pt (pw_or (pt_not (pt_val (pe_call (ok_law_right T) (hr.mono (by decide)) (by rfl) T.m_law_right T.f_law_right.F.kp T.f_law_right.b .nil pass0 (pa_cons (pv 2) pa_nil)))) (pw_or1 (pt_not (pt_val (pe_call (ok_law_right T) (hr.mono (by decide)) (by rfl) T.m_law_right T.f_law_right.F.kp T.f_law_right.b .nil pass0 (pa_cons (pv 2) pa_nil)))))))
        (pss_one (ps_ret pe_bl))
        pss_nil))))
      (pss_cons (ps_set (i := 3) sc_law.nd rfl (Or.inl rfl) (pe_op op_mul_str pe_str pe_int))
      (pss_cons (ps_if (PW.pt (pw_or (pt_cmpR op_ne (pe_call (ok_checksum T) (hr.mono (by decide)) (by rfl) T.m_checksum T.f_checksum.F.kp T.f_checksum.b .nil pass0 (pa_cons (pv 3) pa_nil)) (pe_call (ok_law_number T) (hr.mono (by decide)) (by rfl) T.m_law_number T.f_law_number.F.kp T.f_law_number.b .nil pass0 (pa_cons (pv 3) pa_nil)) (nomark _)) (pw_or1 (pt_cmpR (op_neDK K hr.units) (pe_ixOwn (ok_Fingerprint_getitem T) (hr.mono (by decide)) T.M_Fingerprint_getitem.at_ T.M_Fingerprint_getitem.fn (fnIn_of T.f_Fingerprint_getitem.F) T.f_Fingerprint_getitem.b pass0 (pe_make T.k_Fingerprint (ok_Fingerprint_init T) (hr.mono (by decide)) (by rfl) T.m_Fingerprint T.f_Fingerprint_init.b .nil pass0 (pa_cons (pe_op op_add_str (pv 3) pe_str) pa_nil)) pe_int (fun _ _ => by with_unfolding_all rfl)) (pe_tup (pa_cons pe_int (pa_cons (pe_call (ok_law_number T) (hr.mono (by decide)) (by rfl) T.m_law_number T.f_law_number.F.kp T.f_law_number.b .nil pass0 (pa_cons (pv 3) pa_nil)) pa_nil))) (nomark _)))))
      (pss_one (ps_ret pe_bl))
      pss_nil)
      (pss_one (ps_ret (pe_and (pe_cmpR op_eq (pe_call (ok_checksum T) (hr.mono (by decide)) (by rfl) T.m_checksum T.f_checksum.F.kp T.f_checksum.b .nil pass0 (pa_cons pe_str pa_nil)) pe_int (nomark _)) (pe_and (pe_cmpR (op_eqDK K hr.units) (pe_prop (pe_make T.k_Fingerprint (ok_Fingerprint_init T) (hr.mono (by decide)) (by rfl) T.m_Fingerprint T.f_Fingerprint_init.b .nil pass0 (pa_cons pe_str pa_nil)) T.c_Fingerprint T.p_Fingerprint_lengths (ok_Fingerprint_lengths T) (hr.mono (by decide)) T.f_Fingerprint_lengths.b .nil pass0 (by rfl)) (pe_tup (pa_cons pe_int pa_nil)) (nomark _)) (pe_one (pe_cmpR op_eq (pe_meth (pe_make T.k_Fingerprint (ok_Fingerprint_init T) (hr.mono (by decide)) (by rfl) T.m_Fingerprint T.f_Fingerprint_init.b .nil pass0 (pa_cons pe_str pa_nil)) T.c_Fingerprint T.M_Fingerprint_first_stale (ok_Fingerprint_first_stale T) (hr.mono (by decide)) T.f_Fingerprint_first_stale.b .nil pass0 (pa_cons pe_str pa_nil)) pe_int (nomark _)))))))))), ?_⟩
    refine ⟨_, rfl, a, _, rfl, .inl hS, _, _, rfl, _, _, rfl, _, rfl, ?_, ?_, ?_⟩
    · split <;> split <;> omega
    · rw [List.length_map]
      split <;> split <;> omega
    have hN : ∃ N : Nat, (if (if (12 : Int) < ((ns.map V.int).length : Int) then (12 : Int) else ((ns.map V.int).length : Int)) > 1 then (if (12 : Int) < ((ns.map V.int).length : Int) then (12 : Int) else ((ns.map V.int).length : Int)) else 1).toNat = N ∧ N < 100 := by
      refine ⟨_, rfl, ?_⟩
      rw [List.length_map]
      split <;> split <;> omega
    obtain ⟨N, hN, hN1⟩ := hN
    rw [hN]
    refine for_range (lo := 0) (n := N) (fun i σ H' => Same H H' ∧ ∃ y1 y2, σ = [some (.ref a), y1, y2, none]) ⟨Same.refl _, _, _, rfl⟩ ?_ ?_
    · rintro i σ H1 hi ⟨s1, y1, y2, rfl⟩
      refine ⟨_, rfl, _, rfl, a, ns, i, (by show [V.ref a, V.int (0 + (i : Int))] = _; rw [Int.zero_add]), Same.seq s1 hS, by omega, fun l p q hl1 => ?_⟩
      refine ⟨_, rfl, l, rfl, ⟨p, q, upd_same⟩, fun H2 b2 st2 => ?_⟩
      have s2 : Same H1 H2 := fun c o h => b2 c o (by rw [upd_ne (ne_of_none h hl1)]; exact h) (ne_of_none h hl1)
      refine ⟨_, rfl, ?_⟩
      refine iteF ?_
      refine ⟨_, rfl, l, rfl, st2, fun H3 b3 st3 => ?_⟩
      have s3 : Same H1 H3 := fun c o h => b3 c o (s2 _ _ h) (ne_of_none h hl1)
      refine ⟨_, rfl, ?_⟩
      exact ⟨Same.trans s1 s3, _, _, rfl⟩
    · rintro σ H1 ⟨s1, y1, y2, rfl⟩
      refine ⟨tx [126], 19999, rfl, rfl, by decide, by decide, by decide, ?_⟩
      rw [rep_txt]
      have h126 : 10 ∉ List.replicate 19999 126 := fun h => by
        have := List.eq_of_mem_replicate h
        omega
      have hlen : (List.replicate 19999 126).length = 19999 := List.length_replicate
      generalize hLg : List.replicate 19999 126 = lg at *
      refine ⟨_, rfl, lg, rfl, h126, by omega, fun H2 s2 => ?_⟩
      refine ⟨_, rfl, lg, rfl, by omega, fun H3 s3 => ?_⟩
      refine ⟨rfl, _, rfl, ?_⟩
      refine iteND1 rfl ?_
      refine ⟨_, rfl, tx lg, tx [10], rfl, rfl, ?_, ?_⟩
      · rw [len_tx, len_tx, hlen]
        decide
      rw [tx_app]
      refine fun x dx hx hdx ne => ⟨x, dx, lg ++ [10], rfl, upd_same, by rw [List.length_append, hlen]; decide, fun H4 b4 f4 => ⟨rfl, ?_⟩⟩
      have hnl : nums (lg ++ [10]) = [num lg, num []] := by
        rw [← hLg]
        exact nums_long 19999
      have hnum : num lg = (19999, csum lg) := by
        unfold num
        rw [hlen]
        rfl
      obtain ⟨dy, u, y3, y4⟩ := f4.dp
      refine ⟨x, _, _, rfl, y3, x, _, 0, num lg, rfl, f4, by rw [hnl]; exact (by decide : (2 : Nat) ≤ 1000001), by rw [hnl]; rfl, fun t ht => ?_⟩
      refine ⟨_, rfl, lg, rfl, by omega, fun H5 s5 => ?_⟩
      refine ⟨(by show 2 ≤ sizeLine; decide), fun t2 ht2 => ?_⟩
      have s6 := Same.new (o := .tup [.int 19999, .int (csum lg)]) s5 ht2
      refine ⟨_, _, dp_same s6 (ht _ (Same.refl _) f4), dp_pair' (p := (19999, csum lg)) (SqT.of upd_same), (shp_prD _).shaped, (shp_prD _).shaped, ?_⟩
      rw [show PyData.eqv (prD (num lg)) (prD (19999, csum lg)) = decide (num lg = (19999, csum lg)) from eqv_pair _ _]
      refine ⟨_, rfl, ?_⟩
      refine iteND1 hnum ?_
      refine ⟨[], rfl, by simp, by decide, fun H7 s7 => ⟨rfl, ?_⟩⟩
      refine ⟨_, rfl, ?_⟩
      refine iteD1 rfl ?_
      refine fun x2 dx2 hx2 hdx2 ne2 => ⟨x2, dx2, [], rfl, upd_same, by decide, fun H8 b8 f8 => ⟨rfl, ?_⟩⟩
      obtain ⟨dz, u2, z1, z2⟩ := f8.dp
      refine ⟨x2, _, _, rfl, z1, x2, _, rfl, f8, by decide, fun H9 t9 s9 ht9 => ?_⟩
      refine ⟨(by show 1 ≤ sizeLine; decide), fun t10 ht10 => ?_⟩
      have n9 : t9 ≠ t10 := ne_of_none ht9 ht10
      refine ⟨_, _, dp_mapI (l := [0]) (by rw [upd_ne n9]; exact ht9), dp_mapI (l := [0]) upd_same, shp_ints.shaped, shp_ints.shaped, ?_⟩
      rw [eqv_ints]
      refine ⟨_, rfl, ?_⟩
      refine iteD1 rfl ?_
      refine fun x3 dx3 hx3 hdx3 ne3 => ⟨x3, dx3, [97], rfl, upd_same, by decide, fun H11 b11 f11 => ⟨rfl, ?_⟩⟩
      obtain ⟨dv, u3, v1, v2⟩ := f11.dp
      refine ⟨x3, _, _, rfl, v1, rfl, x3, _, [97, 10], rfl, f11, by decide, by decide, fun H12 s12 => ?_⟩
      have ef : firstD (nums [97]) (nums [97, 10]) 0 = some 1 := by decide
      rw [ef]
      exact ⟨rfl, k H12⟩
end
end K79
/-! K79R -/
set_option Elab.async false
set_option linter.all false
set_option maxRecDepth 100000
set_option maxHeartbeats 0
namespace K79
open PySem PySem.Spec PyProof.Rows L2 My He
abbrev R : PySem.W.OpenRow := PySem.W.OpenLaw.row PySem.Challenge.rw_mapstack_k79_fingerprints
abbrev hk : PySem.W.Hook := hookM 7 exs fns
def ob (s : PySem.W.SharedT) : AlD := obsMG 7 exs fns (HandSHeadRun.getT s)
theorem ob_eq (s : PySem.W.SharedT) : ob s = hk.obs s.abs := obsMG_eq (HandSHeadRun.getT_eq s)
def loose0 : List Str := ["MapError", "BadText", "BadNumber", "need_text", "lines_of", "MODULUS", "checksum", "Fingerprint", "_law_stream", "_law_pick", "_law_text", "_law_number", "_law_rows", "_law_changed", "_law_first", "_law_right"]
def loose : List Str := loose0
theorem run (w : World) : HandSHeadRun.RunEq R (PySem.W.view R.prog [20]) hk ob 3000 loose w := by
  intro os
  kernel_rfl
end K79
namespace K79
open PySem PySem.Spec PyProof.Rows L2 My He
theorem facts {P : Program} {w : World} {K : PySem.W.Frag} {h : Heap} {mg : Str → Option Value} {f : Addr} (X : K.In h) (G : h.Ns mainGlobals mg) (hfa : mg ("law" : Str) = some (.ref f)) (c : SaysM exs fns K) :
    ∃ fd : FuncData, (∀ (s : Shared) (v : Value), BindsTo s fd ⟨[v], []⟩ [("script", v)]) ∧ ∀ base : Heap, K.In base → base.Ns mainGlobals mg → FnOk P w K mg base CX0 7 f fd ["script"] (spLaw K) := by
  have T : Txt K mg := ⟨c, fun x v e => by
    cases v with
    | none => exact PySem.W.mg_none_of X G e
    | some v => exact PySem.W.mg_of X G e⟩
  have e := hfa.symm.trans T.m_law
  cases e
  exact ⟨fdAt K (d_law.adr K), fun s v => FunD.bindsA (ps := ["script"]) T.f_law.F (fun _ _ _ _ _ _ us hl => match us, hl with | [_], _ => rfl) s [v] rfl, fun base _ _ => ok_law T⟩
end K79
open PySem PySem.W PySem.Calls PyProof.Rows
theorem PySem.Challenge.cw_mapstack_k79_fingerprints_holds : PySem.Challenge.rw_mapstack_k79_fingerprints.Holds := by
  w_on; o_law
  refine HandSHeadRun.head_any (r := OpenLaw.row PySem.Challenge.rw_mapstack_k79_fingerprints) (q := view (OpenLaw.row PySem.Challenge.rw_mapstack_k79_fingerprints).prog [20]) (H := K79.hk) (ob := K79.ob) (M := 3000) (loose := K79.loose) (d := HandSHeadRun.topDef (OpenLaw.row PySem.Challenge.rw_mapstack_k79_fingerprints).prog 20) (kwd := []) K79.ob_eq
    (by kernel_rfl) (fun s => by kernel_rfl) K79.run (by kernel_rfl) (by kernel_rfl) (by kernel_rfl) (by rfl) (by first | assumption | decide +kernel) (by decide +kernel) ⟨rfl, rfl, rfl, rfl, rfl, by decide +kernel⟩ ?hw ?hc
  case hw => w_witness2
  case hc =>
    refine L2.walk_ofE (l := PySem.Challenge.rw_mapstack_k79_fingerprints) (n := 63) (k := 7) (x := "script") (CX := L2.CX0) rfl (by decide) (by kernel_rfl) ⟨rfl, by decide, by decide⟩ ?F (fun _ _ _ _ z => z)
    intro w mg fa h Y G hmg0
    obtain ⟨K, KX, c⟩ := Y
    have hmg : mg ("law" : PySem.Str) = some (.ref fa) := by
      have e : (HandSHeadRun.topDef (OpenLaw.row PySem.Challenge.rw_mapstack_k79_fingerprints).prog 20).name = ("law" : PySem.Str) := by kernel_rfl
      rw [← e]
      exact hmg0
    obtain ⟨fd, hb, hF⟩ := K79.facts (P := (PySem.Challenge.rw_mapstack_k79_fingerprints).prog) (w := w) KX G hmg c
    exact ⟨K, fd, K79.spLaw K, KX, hb, fun H a ns hl _ hS => ⟨a, ns, rfl, hS, hl, fun _ => rfl⟩, hF⟩
