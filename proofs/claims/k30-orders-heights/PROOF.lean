import PyProof.Rows.All
import Wide.All
import OpenK.AllK
import Wide.FinOn
import HandS.ForMost
import HandS.TupAny
import HandS.TupMul
import KE.KDictKeyed
import HandS.Exc
import HandS.ExcOwn
import HandS.WordsExc
import HandS.Flow
import HandS.TupLe
import HandS.Wide
import HandS.WideBits
import HandS.Deep
import HandS.Style
import HandS.IsInst
import HandS.RaiseMore
import KE.SortData
import KE.DatumIndex
import HandS.SortInts
import HandS.TupSets
import HandS.More
import HandS.Walk
import HandS.Rev
import HandS.Zip
import HandS.Conv
import HandS.DictComp
import HandS.Ends
import HandS.Small
import HandS.SetFor
import HandS.Strs
import KE.KIndexOf
import HandS.ExcIs
import PyProof.ExcBaseAll.ValueError
import HandS.Dict
import HandS.TryMany
import HandS.ExcField
import HandS.ExcInit
import KE.KEqDict
import HandS.GenList
import PySem.Challenge.RW_pilepass_k30_heights_of_orders
set_option Elab.async false
set_option linter.all false
set_option maxRecDepth 100000
set_option maxHeartbeats 2000000
/-! MdT: tuples whose very object is known (no dict of its own). -/
namespace Md
open PySem PySem.Spec PyProof.Rows L2
section
variable {X : Cx} {es : List Expr} {pos : Pos} {t : TA}
/-- a new tuple's object -/
abbrev tobj (us : List Value) : Obj := { cls := .type "tuple", data := .seq us.toArray }
def NewX (K : PySem.W.Frag) (xs : List V) (H : Hp) (Q : VK) : Prop := ∀ p ob, H p = none → ob.dict = none → Q (.ref p) (upd H p (.frz ob (.tup xs)))
theorem ep_new {pins : List (Addr × Obj)} {σ : L2.St} {H : Hp} {Q : VK} {s : Shared} {h' : Heap} {tk : Nat} {us : List Value} {xs : List V} (I : Inv X pins σ H s) (k : ∀ b o, s.heap.get? b = some o → h'.get? b = some o) (rv : Vals xs us) (hz : xs.length ≤ sizeLine) (q : NewX X.K xs H Q) :
    EP X pins σ Q (.ref h'.objs.size) { s with heap := h'.push (tobj us), toks := tk } := by
  have I1 : Inv X pins σ H { s with heap := h' } := I.kept (t' := s.toks) k
  have new : (h'.push (tobj us)).get? h'.objs.size = some (tobj us) := Heap.get?_push_size _ rfl
  exact ⟨.ref h'.objs.size, upd H h'.objs.size (.frz (tobj us) (.tup xs)), I1.laid (t' := tk) (o := .frz (tobj us) (.tup xs)) (fun b ob e => Heap.get?_push_of_some _ e) (Nat.le_refl _) ⟨new, hz, us, rv, _, new, rfl, _, rfl⟩, rfl, q _ _ (I1.hok.fresh (Nat.le_refl _)) rfl⟩
def tTupX (K : PySem.W.Frag) (t : TA) : TE := fun σ H Q => t σ H fun xs H1 => xs.length ≤ sizeLine ∧ NewX K xs H1 Q
theorem pe_tupX {x1} (h : PA X es t) : PE X (.Tuple es x1 pos) (tTupX X.K t) :=
  ⟨fun pins s σ H Q I hq => wpAny_Tuple_spliced (thn (h.run pos pins s σ H _ I hq) fun us s1 ⟨xs, H1, I1, r, z, q⟩ => ⟨by rw [← r.length]; exact z, ep_new I1 (fun _ _ e => e) r z q⟩)⟩
/-- t + u -/
def rCatX (K : PySem.W.Frag) : R2 := fun x y H Q => ∃ a b xs ys, x = .ref a ∧ y = .ref b ∧ SqT K H a xs ∧ SqT K H b ys ∧ xs.length + ys.length ≤ sizeLine ∧
  (xs = [] → Q (.ref b) H) ∧ (xs ≠ [] → ys = [] → Q (.ref a) H) ∧ (xs ≠ [] → ys ≠ [] → NewX K (xs ++ ys) H Q)
theorem op_catX : OpR X (binaryOp .Add) (rCatX X.K) := by
  intro pins s σ H x y v u Q I rx ry ⟨a, b, xs, ys, ex, ey, ha, hb, hz, q0, q1, q2⟩
  subst ex ey
  cases rx
  cases ry
  obtain ⟨its, r1, p1, _⟩ := I.tuple ha
  obtain ⟨its2, r2, p2, _⟩ := I.tuple hb
  by_cases hx : xs = []
  · subst hx
    cases r1
    exact cat_tup0 p1 p2 ⟨.ref b, H, I, rfl, q0 rfl⟩
  · refine HT.cat_tup p1 p2 (fun z => hx (r1.nil_iff.mp z)) (fun z => ⟨.ref a, H, I, rfl, q1 hx (r2.nil_iff.mp z)⟩) (fun z => ?_) (by rw [← r1.length, ← r2.length]; exact hz)
    exact ep_new (tk := s.toks) I (fun _ _ e => e) (r1.append r2) (by rw [List.length_append]; exact hz) (q2 hx fun w => z (r2.nil_iff.mpr w))
/-- t * k, the very object known -/
def rRepX (K : PySem.W.Frag) : R2 := fun x y H Q => ∃ l k xs, x = .ref l ∧ y = .int k ∧ SqT K H l xs ∧ xs ≠ [] ∧ 2 ≤ k ∧ k ≤ 1000 ∧ xs.length ≤ 1000 ∧ NewX K (List.replicate k.toNat xs).flatten H Q
theorem op_repX : OpR X (binaryOp .Mult) (rRepX X.K) := by
  intro pins s σ H x y v u Q I rx ry h
  obtain ⟨l, k, xs, rfl, rfl, hT, hne, h1, h2, hz, q⟩ := h
  cases rx
  obtain ⟨t, rfl⟩ := ry
  obtain ⟨its, r, ⟨⟨cls, dd, data, sl⟩, ho, hc, n, hd⟩, hs⟩ := I.tuple hT
  simp only at hc hd
  subst hc hd
  have hle : its.length = xs.length := r.length.symm
  have hn : its ≠ [] := fun e => hne (by
    rw [e] at hle
    exact List.eq_nil_of_length_eq_zero hle.symm)
  have hi : its.toArray.isEmpty = false := by
    cases its with
    | nil => exact absurd rfl hn
    | cons a b => rfl
  have hsz0 : its.toArray.size = xs.length := by rw [List.size_toArray, hle]
  have hm : ((its.toArray.size : Nat) : Int) * k ≤ 1000000 := by
    rw [hsz0]
    have a1 : ((xs.length : Nat) : Int) * k ≤ 1000 * k := Int.mul_le_mul_of_nonneg_right (by omega) (by omega)
    omega
  have flen : (List.replicate k.toNat its).flatten.length ≤ sizeLine := by
    rw [PyProof.Rows.lm_len_rep_flat, hle, sizeLine_eq]
    have a1 : k.toNat * xs.length ≤ 1000 * 1000 := Nat.mul_le_mul (by omega) hz
    omega
  have c0 : (decide (k < -(2 ^ 63)) || decide (k ≥ 2 ^ 63)) = false := by
    rw [decide_eq_false (by omega), decide_eq_false (by omega)] <;> rfl
  have c1 : (its.toArray.isEmpty || k == 1) = false := by
    rw [hi, Bool.false_or]
    exact beq_eq_false_iff_ne.mpr (by omega)
  have c2 : (decide (k ≤ 0) || its.toArray.isEmpty) = false := by
    rw [hi, Bool.or_false]
    exact decide_eq_false (by omega)
  have c4 : Builtin.Tuple.tupleTooMany (((its.toArray.size : Nat) : Int) * k) = false := by
    unfold Builtin.Tuple.tupleTooMany
    rw [sizeLine_eq]
    exact decide_eq_false (by omega)
  refine wpAny_binaryOp_repeat_ref (T := "tuple") (U := "int") (by decide) ⟨_, ho, rfl⟩ (fun s' => typeIs_int s' k t) noFill_tuple_mul F.fills_int_mul F.slot_int_rmul repeat_tuple F.slot_int_index.lookup
    (call_meets F.slot_int_rmul (typeIs_int s k t) F.entry_int_rmul (F.args_int_rmul_2 _ _) (int_rmul_tuple k t l its.toArray n dd sl)
      ⟨ho, rfl, ⟨_, ho, rfl⟩, call_meets F.slot_tuple_mul ⟨_, ho, rfl⟩ F.entry_tuple_mul (F.args_tuple_mul_2 _ _) (tuple_mulW l its.toArray n dd sl k t c0 c1 c2 (by omega) c4 (by rw [size_rep, List.size_toArray]; exact flen)) ⟨ho, ?_⟩⟩)
  rw [size_rep]
  exact ep_new (tk := s.toks) I (fun _ _ e => e) (r.rep k.toNat) (by rw [PyProof.Rows.lm_len_rep_flat, sizeLine_eq]; have a1 : k.toNat * xs.length ≤ 1000 * 1000 := Nat.mul_le_mul (by omega) hz; omega) q
/-- t[lo:hi] -/
def rSlX (K : PySem.W.Frag) : V → Option Int → Option Int → Hp → VK → Prop := fun x lo hi H Q => ∃ a xs, x = .ref a ∧ SqT K H a xs ∧
  (HT.sIx xs.length 0 lo = 0 ∧ HT.sIx xs.length xs.length hi = xs.length → Q (.ref a) H) ∧ (¬ (HT.sIx xs.length 0 lo = 0 ∧ HT.sIx xs.length xs.length hi = xs.length) → NewX K (cutV xs lo hi) H Q)
theorem sl_tupX : SlR X (rSlX X.K) := by
  intro pins s σ H x v vl vu lo hi sl Q I rx hs pl pu ⟨a, xs, ex, hx, q1, q2⟩
  subst ex
  cases rx
  obtain ⟨its, r, ht, hz⟩ := I.tuple hx
  have hlen : its.toArray.size = xs.length := by rw [List.size_toArray]; exact r.length.symm
  refine ⟨"tuple", _, PyProof.Rows.slot_tuple_getitem.lookup, ht.typeIs, ?_⟩
  by_cases hw : HT.sIx xs.length 0 lo = 0 ∧ HT.sIx xs.length xs.length hi = xs.length
  · exact getItem_tuple_whole ht hs pl pu (by rw [hlen]; exact hw) ⟨.ref a, H, I, rfl, q1 hw⟩
  · refine HT.getItem_tuple_cut ht hs pl pu (by rw [hlen]; exact hw) ?_ (by rw [hlen]; exact hz)
    rw [hlen]
    exact ep_new (tk := s.toks) I (fun _ _ e => e) ((r.drop (HT.sIx xs.length 0 lo)).take (HT.sIx xs.length xs.length hi - HT.sIx xs.length 0 lo)) (Nat.le_trans (cutV_length xs lo hi) hz) (q2 hw)
/-- tuple(x) -/
theorem call_tupleX : CallR X (.type "tuple") (fun xs H Q => ∃ p ys, xs = [.ref p] ∧ ((SqL X.K H p ys ∧ NewX X.K ys H Q) ∨ (SqT X.K H p ys ∧ Q (.ref p) H))) := by
  intro pins s σ H xs us Q I r ⟨p, ys, ex, h⟩
  subst ex
  obtain ⟨u, rfl, rx⟩ := vals1 r
  cases rx
  rcases h with ⟨hq, q⟩ | ⟨hq, q⟩
  · obtain ⟨its, rv, pl, hz⟩ := I.list hq
    have hlen := rv.length
    exact call_tuple_list pl.isList (fun h' kp => ep_new (tk := s.toks) I kp rv hz q) (by simp only [List.size_toArray] <;> omega)
  · obtain ⟨its, rv, pl, hz⟩ := I.tuple hq
    exact call_tuple_same pl ⟨.ref p, H, I, rfl, q⟩
/-! methods of built-in types, own tuples too -/
def tyX (K : PySem.W.Frag) (T : String) (x : V) (H : Hp) : Prop := tyV K T x H ∨ (T = "tuple" ∧ ∃ p ob xs, x = .ref p ∧ H p = some (.frz ob (.tup xs)) ∧ ob.dict = none)
theorem tyX_is {pins : List (Addr × Obj)} {σ : L2.St} {H : Hp} {s : Shared} {T : String} {x : V} {v : Value} (I : Inv X pins σ H s) (r : RelV x v) (ty : tyX X.K T x H) :
    s.TypeIs v T ∧ ∀ a, v = .ref a → ∃ ob, s.heap.get? a = some ob ∧ ob.dict = none := by
  rcases ty with ty | ⟨rfl, p, ob, xs, rfl, hp, hd⟩
  · exact tyV_is I r ty
  · cases r
    have ho := (I.hok p _ hp).1
    obtain ⟨its, _, ht, _⟩ := I.tuple (show SqT X.K H p xs from .inl (.inr ⟨ob, hp⟩))
    exact ⟨ht.typeIs, fun a e => by cases e; exact ⟨ob, ho, hd⟩⟩
def tBM0X (K : PySem.W.Frag) (T : String) (r : V → List V → Hp → VK → Prop) (to : TE) : TE := fun σ H Q => to σ H fun x H1 => tyX K T x H1 ∧ r x [] H1 Q
def tBMX (K : PySem.W.Frag) (T : String) (r : V → List V → Hp → VK → Prop) (to : TE) (t : TA) : TE := fun σ H Q => to σ H fun x H1 => tyX K T x H1 ∧ t σ H1 fun xs H2 => r x xs H2 Q
variable {o e : Expr} {to : TE} {name : Str} {apos cpos : Pos} {T id : String} {r : V → List V → Hp → VK → Prop}
theorem pe_bm0X (pa : PlainAttrs T) (slot : Slot T name id) (hty : typeOf (.builtin id) = pure (.type "method_descriptor")) (hm : MtR X id r) (ho : PE X o to)
    (hbase : attributeBase o name X.env (eval o X.env) = eval o X.env := by rfl) (hline : (apos.endLine == cpos.line) = true := by rfl) : PE X (.Call (.Attribute o name apos) [] [] cpos) (tBM0X X.K T r to) := by
  refine ⟨fun pins s σ H Q I h => ?_⟩
  refine wpAny_Call_method0_late hbase hline (thn (ho.run pins s σ H _ I h) fun v s1 ⟨x, H1, I1, r1, ty, q1⟩ => ?_)
  obtain ⟨h1, h2⟩ := tyX_is I1 r1 ty
  exact ⟨T, id, pa, slot, hty, h1, h2, Calls.callWith_builtin rfl (PySem.evalArgs_none (hm pins s1 σ H1 x [] v [] Q I1 r1 .nil q1))⟩
theorem pe_bmX (pa : PlainAttrs T) (slot : Slot T name id) (hty : typeOf (.builtin id) = pure (.type "method_descriptor")) (hm : MtR X id r) (ho : PE X o to) (ha : PA X (e :: es) t)
    (hbase : attributeBase o name X.env (eval o X.env) = eval o X.env := by rfl)
    (hfew : ((backTo cpos (starEach (e :: es) X.env)).all (fun x => !x.1) && (backToKw cpos (keywordEach [] X.env)).all (fun x => x.1.isSome)
      && decide ((e :: es).length + ([] : List Keyword).length + (if ([] : List Keyword).isEmpty then 0 else 1) < 30)) = true := by rfl)
    (hline : (apos.endLine == cpos.line) = true := by rfl) (hs : starEach (e :: es) X.env = (false, eval e X.env) :: starEach es X.env := by rfl) (hplain : (backTo cpos (starEach es X.env)).any (·.1) = false := by rfl) :
    PE X (.Call (.Attribute o name apos) (e :: es) [] cpos) (tBMX X.K T r to t) := by
  refine ⟨fun pins s σ H Q I h => ?_⟩
  refine wpAny_Call_method_late hbase hfew hline rfl (thn (ho.run pins s σ H _ I h) fun v s1 ⟨x, H1, I1, r1, ty, q1⟩ => ?_)
  obtain ⟨h1, h2⟩ := tyX_is I1 r1 ty
  refine ⟨T, id, pa, slot, hty, h1, h2, ?_⟩
  have hA := ha.run cpos pins s1 σ H1 _ I1 q1
  rw [hs] at hA ⊢
  refine Calls.callWith_builtin (by show (false || (backTo cpos (starEach es X.env)).any (·.1)) = false; rw [hplain] <;> rfl) (Calls.evalArgs_plain ?_)
  exact thn hA fun us s2 ⟨vs, H2, I2, r2, q2⟩ => hm pins s2 σ H2 x vs v us Q I2 r1 r2 q2
end
end Md

set_option Elab.async false
set_option linter.all false
set_option maxRecDepth 100000
/-! Md0: the data D, the store, outcomes; what of the abstract heap stands for what. -/
namespace Md
open PySem L2

inductive D where
  | non | bl (b : Bool) | int (i : Int) | str (x : Str) | adr (a : Addr)
  | tup (xs : List D) | lst (xs : List D) | ref (l : Nat) | scr (ns : List Int) | edc | fn (x : Str) | wtu (xs : List D) | lsx (xs : List D)

mutual
def D.beq : D → D → Bool
  | .non, .non => true
  | .bl a, .bl b => decide (a = b)
  | .int a, .int b => decide (a = b)
  | .str a, .str b => decide (a = b)
  | .adr a, .adr b => decide (a = b)
  | .tup a, .tup b => D.beqL a b
  | .lst a, .lst b => D.beqL a b
  | .ref a, .ref b => decide (a = b)
  | .scr a, .scr b => decide (a = b)
  | .edc, .edc => true
  | .fn a, .fn b => decide (a = b)
  | .wtu a, .wtu b => D.beqL a b
  | .lsx a, .lsx b => D.beqL a b
  | _, _ => false
def D.beqL : List D → List D → Bool
  | [], [] => true
  | x :: xs, y :: ys => D.beq x y && D.beqL xs ys
  | _, _ => false
end
mutual
theorem D.beq_refl : ∀ a : D, D.beq a a = true
  | .non => rfl
  | .bl a => by simp [D.beq]
  | .int a => by simp [D.beq]
  | .str a => by simp [D.beq]
  | .adr a => by simp [D.beq]
  | .tup a => by rw [D.beq]; exact D.beqL_refl a
  | .lst a => by rw [D.beq]; exact D.beqL_refl a
  | .ref a => by simp [D.beq]
  | .scr a => by simp [D.beq]
  | .edc => rfl
  | .fn a => by simp [D.beq]
  | .wtu a => by rw [D.beq]; exact D.beqL_refl a
  | .lsx a => by rw [D.beq]; exact D.beqL_refl a
theorem D.beqL_refl : ∀ a : List D, D.beqL a a = true
  | [] => rfl
  | x :: xs => by rw [D.beqL, D.beq_refl x, D.beqL_refl xs]; rfl
end
mutual
theorem D.eq_of_beq : ∀ a b : D, D.beq a b = true → a = b
  | .non, b, h => by cases b <;> simp [D.beq] at h ⊢
  | .bl a, b, h => by cases b <;> simp [D.beq] at h ⊢ <;> exact h
  | .int a, b, h => by cases b <;> simp [D.beq] at h ⊢ <;> exact h
  | .str a, b, h => by cases b <;> simp [D.beq] at h ⊢ <;> exact h
  | .adr a, b, h => by cases b <;> simp [D.beq] at h ⊢ <;> exact h
  | .tup a, b, h => by
    cases b <;> simp [D.beq] at h ⊢
    exact D.eq_of_beqL a _ h
  | .lst a, b, h => by
    cases b <;> simp [D.beq] at h ⊢
    exact D.eq_of_beqL a _ h
  | .ref a, b, h => by cases b <;> simp [D.beq] at h ⊢ <;> exact h
  | .scr a, b, h => by cases b <;> simp [D.beq] at h ⊢ <;> exact h
  | .edc, b, h => by cases b <;> simp [D.beq] at h ⊢
  | .fn a, b, h => by cases b <;> simp [D.beq] at h ⊢ <;> exact h
  | .wtu a, b, h => by
    cases b <;> simp [D.beq] at h ⊢
    exact D.eq_of_beqL a _ h
  | .lsx a, b, h => by
    cases b <;> simp [D.beq] at h ⊢
    exact D.eq_of_beqL a _ h
theorem D.eq_of_beqL : ∀ a b : List D, D.beqL a b = true → a = b
  | [], b, h => by cases b <;> simp [D.beqL] at h ⊢
  | x :: xs, b, h => by
    cases b with
    | nil => simp [D.beqL] at h
    | cons y ys =>
      simp [D.beqL] at h
      rw [D.eq_of_beq x y h.1, D.eq_of_beqL xs ys h.2]
end
instance : DecidableEq D := fun a b => if h : D.beq a b = true then isTrue (D.eq_of_beq a b h) else isFalse fun e => h (e ▸ D.beq_refl a)

/-- what stands in a cell of one's own -/
inductive Cell where
  | lst (xs : List D)
  | dct (kvs : List (D × D))
  | ins (cls : Str) (fs : List (Str × D))
  | dcn (kvs : List (D × D))
  | lkd (kvs : List (D × D))
  deriving DecidableEq
abbrev Sto := List Cell
abbrev Loc := List (Option D)
structure Exn where
  cls : Str
  fs : List (Str × D)
inductive Out (α : Type) where
  | ok (a : α) (S : Sto)
  | ex (x : Exn) (S : Sto)
  | no
namespace Out
def bind {α β : Type} (o : Out α) (k : α → Sto → Out β) : Out β :=
  match o with
  | .ok a S => k a S
  | .ex x S => .ex x S
  | .no => .no
def map {α β : Type} (f : α → β) (o : Out α) : Out β := o.bind fun a S => .ok (f a) S
@[simp] theorem bind_ok {α β : Type} (a : α) (S : Sto) (k : α → Sto → Out β) : (Out.ok a S).bind k = k a S := rfl
@[simp] theorem bind_ex {α β : Type} (x : Exn) (S : Sto) (k : α → Sto → Out β) : (Out.ex x S).bind k = .ex x S := rfl
@[simp] theorem bind_no {α β : Type} (k : α → Sto → Out β) : (Out.no : Out α).bind k = .no := rfl
end Out
/-- an option that must be there -/
def need {α β : Type} (o : Option α) (k : α → Out β) : Out β := match o with | some a => k a | none => .no
@[simp] theorem need_some {α β : Type} (a : α) (k : α → Out β) : need (some a) k = k a := rfl
@[simp] theorem need_none {α β : Type} (k : α → Out β) : need (none : Option α) k = .no := rfl
def guardO {β : Type} (c : Bool) (k : Out β) : Out β := if c then k else .no
@[simp] theorem guardO_true {β : Type} (k : Out β) : guardO true k = k := rfl
@[simp] theorem guardO_false {β : Type} (k : Out β) : guardO false k = .no := rfl

/-! ### what stands for what -/
/-- a tuple of the written part -/
def WrT (K : PySem.W.Frag) (a : Addr) (xs : List V) : Prop :=
  ∃ (o : Obj) (its : Array Value) (n : Nat), K.lookup a = some o ∧ o.cls = .type "tuple" ∧ o.dict = none ∧ o.data = .seq its n ∧ its.size ≤ sizeLine ∧ Vals xs its.toList
def WrL (K : PySem.W.Frag) (a : Addr) (xs : List V) : Prop :=
  ∃ (o : Obj) (its : Array Value) (n : Nat), K.lookup a = some o ∧ o.cls = .type "list" ∧ o.dict = none ∧ o.data = .seq its n ∧ its.size ≤ sizeLine ∧ Vals xs its.toList

mutual
def Is (K : PySem.W.Frag) (ρ : List Addr) (H : Hp) : D → V → Prop
  | .non, v => v = .non
  | .bl b, v => v = .bl b
  | .int i, v => v = .int i
  | .str x, v => v = .str x
  | .adr a, v => v = .ref a
  | .ref l, v => ∃ a, ρ[l]? = some a ∧ v = .ref a
  | .tup ds, v => ∃ a vs, v = .ref a ∧ ((a ∉ ρ ∧ ∃ ob, H a = some (.frz ob (.tup vs)) ∧ ob.dict = none) ∨ WrT K a vs) ∧ IsL K ρ H ds vs
  | .wtu ds, v => ∃ a vs, v = .ref a ∧ a ∉ ρ ∧ H a = some (.tup vs) ∧ IsL K ρ H ds vs
  | .lsx ds, v => ∃ a vs, v = .ref a ∧ (a ∉ ρ ∧ a ≠ sysModules) ∧ H a = some (.lst vs) ∧ IsL K ρ H ds vs
  | .lst ds, v => ∃ a vs, v = .ref a ∧ a ∉ ρ ∧ H a = some (.lst vs) ∧ IsL K ρ H ds vs
  | .scr ns, v => ∃ a, v = .ref a ∧ ((a ∉ ρ ∧ Rd H a (.lst (ns.map V.int))) ∨ WrL K a (ns.map V.int))
  | .edc, v => ∃ a, v = .ref a ∧ a ∉ ρ ∧ H a = some (.dK [])
  | .fn x, v => ∃ a, v = .ref a ∧ PySem.W.nsIn K mainGlobals x = some (some (.ref a))
def IsL (K : PySem.W.Frag) (ρ : List Addr) (H : Hp) : List D → List V → Prop
  | [], vs => vs = []
  | d :: ds, vs => ∃ v r, vs = v :: r ∧ Is K ρ H d v ∧ IsL K ρ H ds r
end
section
variable {K : PySem.W.Frag} {ρ ρ' : List Addr} {H H' : Hp}

theorem IsL.length : ∀ {ds : List D} {vs : List V}, IsL K ρ H ds vs → vs.length = ds.length
  | [], _, h => by rw [IsL] at h; subst h; rfl
  | d :: ds, _, h => by
    rw [IsL] at h
    obtain ⟨v, r, rfl, _, h⟩ := h
    simp [IsL.length h]
theorem IsL.nil : IsL K ρ H [] [] := by rw [IsL]
theorem IsL.cons {d : D} {v : V} {ds : List D} {vs : List V} (h : Is K ρ H d v) (t : IsL K ρ H ds vs) : IsL K ρ H (d :: ds) (v :: vs) := by
  rw [IsL]; exact ⟨v, vs, rfl, h, t⟩
theorem IsL.append : ∀ {ds es : List D} {vs us : List V}, IsL K ρ H ds vs → IsL K ρ H es us → IsL K ρ H (ds ++ es) (vs ++ us)
  | [], _, _, _, h, k => by rw [IsL] at h; subst h; exact k
  | d :: ds, _, _, _, h, k => by
    rw [IsL] at h
    obtain ⟨v, r, rfl, h1, h⟩ := h
    exact IsL.cons h1 (IsL.append h k)
theorem IsL.get : ∀ {ds : List D} {vs : List V} {i : Nat} {d : D}, IsL K ρ H ds vs → ds[i]? = some d → ∃ v, vs[i]? = some v ∧ Is K ρ H d v
  | [], _, _, _, _, e => by simp at e
  | x :: ds, _, 0, d, h, e => by
    rw [IsL] at h
    obtain ⟨v, r, rfl, h1, _⟩ := h
    simp at e; subst e
    exact ⟨v, rfl, h1⟩
  | x :: ds, _, i + 1, d, h, e => by
    rw [IsL] at h
    obtain ⟨v, r, rfl, _, h⟩ := h
    obtain ⟨u, q, z⟩ := IsL.get (i := i) (d := d) h (by simpa using e)
    exact ⟨u, by simpa using q, z⟩
theorem IsL.get' : ∀ {ds : List D} {vs : List V} {i : Nat} {v : V}, IsL K ρ H ds vs → vs[i]? = some v → ∃ d, ds[i]? = some d ∧ Is K ρ H d v := fun {ds vs i v} h e => by
  have hl := h.length
  have hi : i < ds.length := by rw [← hl]; exact (List.getElem?_eq_some_iff.mp e).1
  obtain ⟨u, q, z⟩ := h.get (List.getElem?_eq_getElem hi)
  rw [e] at q; cases q
  exact ⟨_, List.getElem?_eq_getElem hi, z⟩
theorem IsL.set : ∀ {ds : List D} {vs : List V} {i : Nat} {d : D} {v : V}, IsL K ρ H ds vs → Is K ρ H d v → IsL K ρ H (ds.set i d) (vs.set i v)
  | [], _, _, _, _, h, _ => by rw [IsL] at h; subst h; exact IsL.nil
  | x :: ds, _, 0, d, v, h, k => by
    rw [IsL] at h
    obtain ⟨u, r, rfl, _, t⟩ := h
    exact IsL.cons k t
  | x :: ds, _, i + 1, d, v, h, k => by
    rw [IsL] at h
    obtain ⟨u, r, rfl, h1, t⟩ := h
    exact IsL.cons h1 (IsL.set t k)
theorem IsL.take : ∀ {ds : List D} {vs : List V} (n : Nat), IsL K ρ H ds vs → IsL K ρ H (ds.take n) (vs.take n)
  | _, _, 0, _ => by simp only [List.take_zero]; exact IsL.nil
  | [], _, n + 1, h => by rw [IsL] at h; subst h; exact IsL.nil
  | x :: ds, _, n + 1, h => by
    rw [IsL] at h
    obtain ⟨u, r, rfl, h1, t⟩ := h
    exact IsL.cons h1 (IsL.take n t)
theorem IsL.drop : ∀ {ds : List D} {vs : List V} (n : Nat), IsL K ρ H ds vs → IsL K ρ H (ds.drop n) (vs.drop n)
  | _, _, 0, h => h
  | [], _, n + 1, h => by rw [IsL] at h; subst h; exact IsL.nil
  | x :: ds, _, n + 1, h => by
    rw [IsL] at h
    obtain ⟨u, r, rfl, h1, t⟩ := h
    exact IsL.drop n t
theorem IsL.reverse : ∀ {ds : List D} {vs : List V}, IsL K ρ H ds vs → IsL K ρ H ds.reverse vs.reverse
  | [], _, h => by rw [IsL] at h; subst h; exact IsL.nil
  | x :: ds, _, h => by
    rw [IsL] at h
    obtain ⟨u, r, rfl, h1, t⟩ := h
    rw [List.reverse_cons, List.reverse_cons]
    exact IsL.append (IsL.reverse t) (IsL.cons h1 IsL.nil)
theorem IsL.of_ints : ∀ (ns : List Int), IsL K ρ H (ns.map D.int) (ns.map V.int)
  | [] => IsL.nil
  | n :: ns => IsL.cons (by rw [Is]) (IsL.of_ints ns)

/-- cells made since; all else that was there stands -/
structure Ext (ρ : List Addr) (H : Hp) (ρ' : List Addr) (H' : Hp) : Prop where
  pre : ρ <+: ρ'
  keep : ∀ a o, a ∉ ρ → H a = some o → a ∉ ρ' ∧ H' a = some o
theorem Ext.refl : Ext ρ H ρ H := ⟨List.prefix_refl _, fun _ _ n e => ⟨n, e⟩⟩
theorem Ext.trans {ρ'' : List Addr} {H'' : Hp} (a : Ext ρ H ρ' H') (b : Ext ρ' H' ρ'' H'') : Ext ρ H ρ'' H'' :=
  ⟨a.pre.trans b.pre, fun x o n e => let ⟨n', e'⟩ := a.keep x o n e; b.keep x o n' e'⟩
theorem Ext.get {l : Nat} {a : Addr} (e : Ext ρ H ρ' H') (h : ρ[l]? = some a) : ρ'[l]? = some a := by
  obtain ⟨t, rfl⟩ := e.pre
  obtain ⟨hl, rfl⟩ := List.getElem?_eq_some_iff.mp h
  rw [List.getElem?_append_left hl]; exact h
theorem Ext.rd {a : Addr} {u : HO} (e : Ext ρ H ρ' H') (n : a ∉ ρ) (h : Rd H a u) : a ∉ ρ' ∧ Rd H' a u := by
  rcases h with h | ⟨o, h⟩
  · exact ⟨(e.keep _ _ n h).1, .inl (e.keep _ _ n h).2⟩
  · exact ⟨(e.keep _ _ n h).1, .inr ⟨o, (e.keep _ _ n h).2⟩⟩
mutual
theorem Is.ext (e : Ext ρ H ρ' H') : ∀ {d : D} {v : V}, Is K ρ H d v → Is K ρ' H' d v
  | .non, _, h => by rw [Is] at h ⊢; exact h
  | .bl _, _, h => by rw [Is] at h ⊢; exact h
  | .int _, _, h => by rw [Is] at h ⊢; exact h
  | .str _, _, h => by rw [Is] at h ⊢; exact h
  | .adr _, _, h => by rw [Is] at h ⊢; exact h
  | .ref _, _, h => by
    rw [Is] at h ⊢
    obtain ⟨a, h, rfl⟩ := h
    exact ⟨a, e.get h, rfl⟩
  | .tup ds, _, h => by
    rw [Is] at h ⊢
    obtain ⟨a, vs, rfl, h, t⟩ := h
    exact ⟨a, vs, rfl, h.imp (fun ⟨n, ob, q, z⟩ => ⟨(e.keep _ _ n q).1, ob, (e.keep _ _ n q).2, z⟩) id, IsL.ext e t⟩
  | .wtu ds, _, h => by
    rw [Is] at h ⊢
    obtain ⟨a, vs, rfl, n, h, t⟩ := h
    exact ⟨a, vs, rfl, (e.keep _ _ n h).1, (e.keep _ _ n h).2, IsL.ext e t⟩
  | .lsx ds, _, h => by
    rw [Is] at h ⊢
    obtain ⟨a, vs, rfl, n, h, t⟩ := h
    exact ⟨a, vs, rfl, ⟨(e.keep _ _ n.1 h).1, n.2⟩, (e.keep _ _ n.1 h).2, IsL.ext e t⟩
  | .lst ds, _, h => by
    rw [Is] at h ⊢
    obtain ⟨a, vs, rfl, n, h, t⟩ := h
    exact ⟨a, vs, rfl, (e.keep _ _ n h).1, (e.keep _ _ n h).2, IsL.ext e t⟩
  | .scr ns, _, h => by
    rw [Is] at h ⊢
    obtain ⟨a, rfl, h⟩ := h
    exact ⟨a, rfl, h.imp (fun ⟨n, r⟩ => e.rd n r) id⟩
  | .edc, _, h => by
    rw [Is] at h ⊢
    obtain ⟨a, rfl, n, h⟩ := h
    exact ⟨a, rfl, e.keep _ _ n h⟩
  | .fn _, _, h => by rw [Is] at h ⊢; exact h
theorem IsL.ext (e : Ext ρ H ρ' H') : ∀ {ds : List D} {vs : List V}, IsL K ρ H ds vs → IsL K ρ' H' ds vs
  | [], _, h => by rw [IsL] at h ⊢; exact h
  | d :: ds, _, h => by
    rw [IsL] at h ⊢
    obtain ⟨v, r, rfl, h1, t⟩ := h
    exact ⟨v, r, rfl, Is.ext e h1, IsL.ext e t⟩
end
theorem Is.seqT {ds : List D} {v : V} (h : Is K ρ H (.tup ds) v) : ∃ a vs, v = .ref a ∧ SqT K H a vs ∧ IsL K ρ H ds vs := by
  rw [Is] at h
  obtain ⟨a, vs, rfl, h, t⟩ := h
  exact ⟨a, vs, rfl, h.imp (fun ⟨_, ob, q, _⟩ => .inr ⟨ob, q⟩) (fun ⟨o, its, n, w1, w2, _, w3⟩ => ⟨o, its, n, w1, w2, w3⟩), t⟩
theorem Is.seqW {ds : List D} {v : V} (h : Is K ρ H (.wtu ds) v) : ∃ a vs, v = .ref a ∧ SqT K H a vs ∧ IsL K ρ H ds vs := by
  rw [Is] at h
  obtain ⟨a, vs, rfl, _, h, t⟩ := h
  exact ⟨a, vs, rfl, .inl (.inl h), t⟩
end

/-- keys of dicts that the hand layer's dicts serve: ints, texts; tuples of these -/
def keyD : D → Option Key
  | .int i => some (.inl i)
  | .str x => some (.inr x)
  | _ => none
def keysD : List D → Option (List Key)
  | [] => some []
  | d :: ds => match keyD d, keysD ds with
    | some k, some ks => some (k :: ks)
    | _, _ => none

section
variable (K : PySem.W.Frag) (ρ : List Addr) (H : Hp)
def IsKV : List (D × D) → List (Key × V) → Prop
  | [], ks => ks = []
  | (k, d) :: r, ks => ∃ q v t, ks = (q, v) :: t ∧ keyD k = some q ∧ Is K ρ H d v ∧ IsKV r t
def IsFs : List (Str × D) → List (Str × V) → Prop
  | [], fs => fs = []
  | (f, d) :: r, fs => ∃ v t, fs = (f, v) :: t ∧ Is K ρ H d v ∧ IsFs r t
end
/-! ### dicts with tuples as keys -/
mutual
def keyN : D → Option NestedKey
  | .non => some .none
  | .bl b => some (.num (if b = true then 1 else 0))
  | .int i => some (.num i)
  | .tup ds => (keysN ds).map .tup
  | _ => none
def keysN : List D → Option (List NestedKey)
  | [] => some []
  | d :: ds => match keyN d, keysN ds with
    | some k, some ks => some (k :: ks)
    | _, _ => none
end
/-- a tuple as a key -/
def tkey : D → Option NestedKey
  | .tup ds => (keysN ds).bind fun ks => if (NestedKey.tup ks).depth ≤ 8 then some (.tup ks) else none
  | _ => none
section
variable (K : PySem.W.Frag) (ρ : List Addr) (H : Hp)
def IsKN : List (D × D) → List (NestedKey × Addr × V) → Prop
  | [], ks => ks = []
  | (k, d) :: r, ks => ∃ q b v t, ks = (q, b, v) :: t ∧ tkey k = some q ∧ Is K ρ H k (.ref b) ∧ Is K ρ H d v ∧ IsKN r t
end
/-- the dict at a -/
def DnO (a : Addr) (ks : List (NestedKey × Addr × V)) : Heap → Prop := fun h => ∃ xs : List (NestedKey × Addr × Value),
  Paired (fun p q => p.1 = q.1 ∧ p.2.1 = q.2.1 ∧ RelV p.2.2 q.2.2) ks xs ∧
  ∃ o es ep, h.get? a = some o ∧ o.ExactDict ∧ o.data = .dict es ep ∧ (∀ (P : Program) (w : World), es.toList = xs.map (entryOfKey (nestedKind P w))) ∧ (xs.map (·.1)).Nodup
/-- a cell at its address -/
def CellAt (K : PySem.W.Frag) (ρ : List Addr) (H : Hp) (a : Addr) : Cell → Prop
  | .lst ds => ∃ vs, H a = some (.lst vs) ∧ IsL K ρ H ds vs
  | .dct kvs => ∃ ks, H a = some (.dK ks) ∧ IsKV K ρ H kvs ks
  | .ins cls fs => ∃ C dx vs, PySem.W.nsIn K mainGlobals cls = some (some (.ref C)) ∧ H a = some (.ins C dx vs) ∧ IsFs K ρ H fs vs
  | .dcn kvs => ∃ ks, H a = some (.ext (DnO a ks)) ∧ IsKN K ρ H kvs ks ∧ (a == sysModules) = false
  | .lkd kvs => ∃ o ks, H a = some (.frz o (.dK ks)) ∧ IsKV K ρ H kvs ks
structure Held (K : PySem.W.Frag) (ρ : List Addr) (H : Hp) (S : Sto) : Prop where
  len : ρ.length = S.length
  nd : ρ.Nodup
  cell : ∀ (l : Nat) (c : Cell) (a : Addr), S[l]? = some c → ρ[l]? = some a → CellAt K ρ H a c
section
variable {K : PySem.W.Frag} {ρ ρ' : List Addr} {H H' : Hp} {S : Sto}
theorem CellAt.there {a : Addr} {c : Cell} (h : CellAt K ρ H a c) : ∃ o, H a = some o := by
  cases c with
  | lst => obtain ⟨_, h, _⟩ := h; exact ⟨_, h⟩
  | dct => obtain ⟨_, h, _⟩ := h; exact ⟨_, h⟩
  | ins => obtain ⟨_, _, _, _, h, _⟩ := h; exact ⟨_, h⟩
  | dcn => obtain ⟨_, h, _⟩ := h; exact ⟨_, h⟩
  | lkd => obtain ⟨_, _, h, _⟩ := h; exact ⟨_, h⟩
theorem Held.there (h : Held K ρ H S) {a : Addr} (m : a ∈ ρ) : ∃ o, H a = some o := by
  obtain ⟨l, hl, rfl⟩ := List.getElem_of_mem m
  have hl' : l < S.length := by rw [← h.len]; exact hl
  exact (h.cell l S[l] _ (by simp [hl']) (by simp [hl])).there
theorem Held.out (h : Held K ρ H S) {a : Addr} (n : H a = none) : a ∉ ρ := fun m => by
  obtain ⟨o, e⟩ := h.there m
  rw [n] at e; cases e
end
end Md

set_option Elab.async false
set_option linter.all false
set_option maxRecDepth 100000
/-! Md1: readings by outcomes; expressions. -/
namespace Md
open PySem L2

def IsX (K : PySem.W.Frag) (ρ : List Addr) (H : Hp) (x : Exn) (cls : Value) (dx : Option Addr) : Prop :=
  (∃ C : Addr, PySem.W.nsIn K mainGlobals x.cls = some (some (.ref C)) ∧ cls = .ref C) ∧ ((x.fs = [] ∧ dx = none) ∨ x.fs ≠ [] ∧ ∃ d vs, dx = some d ∧ H d = some (.xd vs) ∧ IsFs K ρ H x.fs vs)
structure RelL (K : PySem.W.Frag) (ρ : List Addr) (σ : St) (H : Hp) (loc : Loc) : Prop where
  len : σ.length = loc.length
  at_ : ∀ (i : Nat) (d : D), loc[i]? = some (some d) → ∃ v, σ[i]? = some (some v) ∧ Is K ρ H d v
def Good {α β : Type} (K : PySem.W.Frag) (W : WX) (σ : St) (R : List Addr → Hp → α → β → Prop) (Q : β → Hp → Prop) (ρ : List Addr) (H : Hp) : Out α → Prop
  | .ok a S => ∀ ρ' H' b, Held K ρ' H' S → Ext ρ H ρ' H' → R ρ' H' a b → Q b H'
  | .ex x S => ∀ ρ' H' cls dx, Held K ρ' H' S → Ext ρ H ρ' H' → IsX K ρ' H' x cls dx → W cls dx σ H'
  | .no => False
abbrev ED := Loc → Sto → Out D
abbrev AD := Loc → Sto → Out (List D)
abbrev BD := Loc → Sto → Out Bool
def tM {α β : Type} (R : PySem.W.Frag → List Addr → Hp → α → β → Prop) (K : PySem.W.Frag) (W : WX) (m : Loc → Sto → Out α) : St → Hp → (β → Hp → Prop) → Prop :=
  fun σ H Q => ∃ ρ loc S, RelL K ρ σ H loc ∧ Held K ρ H S ∧ Good K W σ (R K) Q ρ H (m loc S)
abbrev tE : PySem.W.Frag → WX → ED → TE := tM Is
abbrev tA : PySem.W.Frag → WX → AD → TA := tM IsL
abbrev EqB (_ : PySem.W.Frag) (_ : List Addr) (_ : Hp) (a b : Bool) : Prop := a = b
abbrev tT : PySem.W.Frag → WX → BD → TT := tM EqB

section
variable {K : PySem.W.Frag} {W : WX} {σ : St} {ρ ρ' : List Addr} {H H' : Hp} {loc : Loc} {S : Sto} {α β γ δ : Type}
theorem RelL.ext (r : RelL K ρ σ H loc) (e : Ext ρ H ρ' H') : RelL K ρ' σ H' loc :=
  ⟨r.len, fun i d h => let ⟨v, h1, h2⟩ := r.at_ i d h; ⟨v, h1, h2.ext e⟩⟩
theorem RelL.set (r : RelL K ρ σ H loc) {d : D} {v : V} (i : Nat) (h : Is K ρ H d v) : RelL K ρ (σ.set i (some v)) H (loc.set i (some d)) := by
  refine ⟨by simp [r.len], fun j e he => ?_⟩
  by_cases hj : i = j
  · subst hj
    by_cases hi : i < loc.length
    · rw [List.getElem?_set_self hi] at he
      cases he
      exact ⟨v, List.getElem?_set_self (by rw [r.len]; exact hi), h⟩
    · rw [List.getElem?_eq_none (by simp; omega)] at he; cases he
  · rw [List.getElem?_set_ne hj] at he ⊢
    exact r.at_ j e he
theorem Good.mono {R : List Addr → Hp → α → β → Prop} {Q Q' : β → Hp → Prop} {o : Out α} (g : Good K W σ R Q ρ H o) (h : ∀ b H, Q b H → Q' b H) : Good K W σ R Q' ρ H o := by
  cases o with
  | ok a S => exact fun ρ' H' b hd e r => h _ _ (g ρ' H' b hd e r)
  | ex x S => exact g
  | no => exact g
theorem Good.ext {R : List Addr → Hp → α → β → Prop} {Q : β → Hp → Prop} {o : Out α} (g : Good K W σ R Q ρ H o) (e : Ext ρ H ρ' H') : Good K W σ R Q ρ' H' o := by
  cases o with
  | ok a S => exact fun ρ2 H2 b hd e2 r => g ρ2 H2 b hd (e.trans e2) r
  | ex x S => exact fun ρ2 H2 c d hd e2 r => g ρ2 H2 c d hd (e.trans e2) r
  | no => exact g
/-- what comes behind an outcome -/
theorem Good.bind {R : List Addr → Hp → α → β → Prop} {R' : List Addr → Hp → γ → δ → Prop} {Q : δ → Hp → Prop} {Q' : β → Hp → Prop} {o : Out α} {k : α → Sto → Out γ} (g : Good K W σ R' Q ρ H (o.bind k))
    (f : ∀ a S1 ρ1 H1 b, Held K ρ1 H1 S1 → Ext ρ H ρ1 H1 → R ρ1 H1 a b → Good K W σ R' Q ρ1 H1 (k a S1) → Q' b H1) : Good K W σ R Q' ρ H o := by
  cases o with
  | ok a S => exact fun ρ1 H1 b hd e r => f a S ρ1 H1 b hd e r (Good.ext (show Good K W σ R' Q ρ H (k a S) from g) e)
  | ex x S => exact g
  | no => exact g
theorem Good.ret {R : List Addr → Hp → α → β → Prop} {Q : β → Hp → Prop} {a : α} {b : β} (g : Good K W σ R Q ρ H (.ok a S)) (hd : Held K ρ H S) (r : R ρ H a b) : Q b H := g ρ H b hd Ext.refl r
theorem Good.need {R : List Addr → Hp → γ → δ → Prop} {Q : δ → Hp → Prop} {o : Option α} {k : α → Out γ} (g : Good K W σ R Q ρ H (need o k)) : ∃ a, o = some a ∧ Good K W σ R Q ρ H (k a) := by
  cases o with
  | some a => exact ⟨a, rfl, g⟩
  | none => exact g.elim
theorem Good.guard {R : List Addr → Hp → γ → δ → Prop} {Q : δ → Hp → Prop} {c : Bool} {k : Out γ} (g : Good K W σ R Q ρ H (guardO c k)) : c = true ∧ Good K W σ R Q ρ H k := by
  cases c with
  | true => exact ⟨rfl, g⟩
  | false => exact g.elim

/-! ### new objects -/
theorem IsKV.ext (e : Ext ρ H ρ' H') : ∀ {kvs : List (D × D)} {ks : List (Key × V)}, IsKV K ρ H kvs ks → IsKV K ρ' H' kvs ks
  | [], _, h => h
  | (k, d) :: r, _, h => by
    obtain ⟨q, v, t, rfl, h5, h6, h7⟩ := h
    exact ⟨q, v, t, rfl, h5, h6.ext e, IsKV.ext e h7⟩
theorem IsFs.ext (e : Ext ρ H ρ' H') : ∀ {fs : List (Str × D)} {vs : List (Str × V)}, IsFs K ρ H fs vs → IsFs K ρ' H' fs vs
  | [], _, h => h
  | (k, d) :: r, _, h => by
    obtain ⟨v, t, rfl, h6, h7⟩ := h
    exact ⟨v, t, rfl, h6.ext e, IsFs.ext e h7⟩
theorem IsKN.ext (e : Ext ρ H ρ' H') : ∀ {kvs : List (D × D)} {ks : List (NestedKey × Addr × V)}, IsKN K ρ H kvs ks → IsKN K ρ' H' kvs ks
  | [], _, h => h
  | (k, d) :: r, _, h => by
    obtain ⟨q, b, v, t, rfl, h4, h5, h6, h7⟩ := h
    exact ⟨q, b, v, t, rfl, h4, h5.ext e, h6.ext e, IsKN.ext e h7⟩
theorem CellAt.ext {a : Addr} {c : Cell} (e : Ext ρ H ρ' H') (q : ∀ o, H a = some o → H' a = some o) (h : CellAt K ρ H a c) : CellAt K ρ' H' a c := by
  cases c with
  | lst ds => obtain ⟨vs, h3, h4⟩ := h; exact ⟨vs, q _ h3, h4.ext e⟩
  | dct kvs => obtain ⟨ks, h3, h4⟩ := h; exact ⟨ks, q _ h3, h4.ext e⟩
  | ins C fs => obtain ⟨C, dx, vs, h2, h3, h4⟩ := h; exact ⟨C, dx, vs, h2, q _ h3, h4.ext e⟩
  | dcn kvs => obtain ⟨ks, h3, h4, h5⟩ := h; exact ⟨ks, q _ h3, h4.ext e, h5⟩
  | lkd kvs => obtain ⟨o, ks, h3, h4⟩ := h; exact ⟨o, ks, q _ h3, h4.ext e⟩
theorem Held.fresh {p : Addr} {o : HO} (h : Held K ρ H S) (n : H p = none) : Held K ρ (upd H p o) S ∧ Ext ρ H ρ (upd H p o) := by
  have e : Ext ρ H ρ (upd H p o) := ⟨List.prefix_refl _, fun a u m q => ⟨m, by rw [upd_ne (ne_of_none q n)]; exact q⟩⟩
  exact ⟨⟨h.len, h.nd, fun l c a h1 h2 => (h.cell l c a h1 h2).ext e fun o q => by rw [upd_ne (ne_of_none q n)]; exact q⟩, e⟩
/-- a new frozen list, a new tuple -/
theorem Held.newL {p : Addr} {ds : List D} {vs : List V} (h : Held K ρ H S) (n : H p = none) (r : IsL K ρ H ds vs) :
    Held K ρ (upd H p (.lst vs)) S ∧ Ext ρ H ρ (upd H p (.lst vs)) ∧ Is K ρ (upd H p (.lst vs)) (.lst ds) (.ref p) := by
  obtain ⟨h1, e⟩ := h.fresh (o := .lst vs) n
  refine ⟨h1, e, ?_⟩
  rw [Is]
  exact ⟨p, vs, rfl, h.out n, upd_same, r.ext e⟩
theorem Held.newX {p : Addr} {ob : Obj} {ds : List D} {vs : List V} (h : Held K ρ H S) (n : H p = none) (z : ob.dict = none) (r : IsL K ρ H ds vs) :
    Held K ρ (upd H p (.frz ob (.tup vs))) S ∧ Ext ρ H ρ (upd H p (.frz ob (.tup vs))) ∧ Is K ρ (upd H p (.frz ob (.tup vs))) (.tup ds) (.ref p) := by
  obtain ⟨h1, e⟩ := h.fresh (o := .frz ob (.tup vs)) n
  refine ⟨h1, e, ?_⟩
  rw [Is]
  exact ⟨p, vs, rfl, .inl ⟨h.out n, ob, upd_same, z⟩, r.ext e⟩
theorem Held.newW {p : Addr} {ds : List D} {vs : List V} (h : Held K ρ H S) (n : H p = none) (r : IsL K ρ H ds vs) :
    Held K ρ (upd H p (.tup vs)) S ∧ Ext ρ H ρ (upd H p (.tup vs)) ∧ Is K ρ (upd H p (.tup vs)) (.wtu ds) (.ref p) := by
  obtain ⟨h1, e⟩ := h.fresh (o := .tup vs) n
  refine ⟨h1, e, ?_⟩
  rw [Is]
  exact ⟨p, vs, rfl, h.out n, upd_same, r.ext e⟩
/-- a new cell -/
theorem Held.push {p : Addr} {o : HO} {c : Cell} (h : Held K ρ H S) (n : H p = none) (r : CellAt K (ρ ++ [p]) (upd H p o) p c) :
    Held K (ρ ++ [p]) (upd H p o) (S ++ [c]) ∧ Ext ρ H (ρ ++ [p]) (upd H p o) ∧ Is K (ρ ++ [p]) (upd H p o) (.ref S.length) (.ref p) := by
  have np := h.out n
  have e : Ext ρ H (ρ ++ [p]) (upd H p o) := ⟨⟨[p], rfl⟩, fun a u m q => by
    have ne := ne_of_none q n
    exact ⟨by simp [m, ne], by rw [upd_ne ne]; exact q⟩⟩
  refine ⟨⟨by simp [h.len], ?_, fun l c' a h1 h2 => ?_⟩, e, ?_⟩
  · rw [List.nodup_append]
    exact ⟨h.nd, by simp, fun a m b m' z => np (by simp at m'; subst m'; rw [← z]; exact m)⟩
  · by_cases hl : l < S.length
    · rw [List.getElem?_append_left hl] at h1
      rw [List.getElem?_append_left (by rw [h.len]; exact hl)] at h2
      exact (h.cell l c' a h1 h2).ext e fun o q => by rw [upd_ne (ne_of_none q n)]; exact q
    · have hl' : l = S.length := by
        have := (List.getElem?_eq_some_iff.mp h1).1
        simp at this; omega
      subst hl'
      simp at h1
      rw [← h.len] at h2
      simp at h2
      subst h1 h2
      exact r
  · rw [Is]
    exact ⟨p, by rw [← h.len]; simp, rfl⟩
theorem Held.pushL {p : Addr} {ds : List D} {vs : List V} (h : Held K ρ H S) (n : H p = none) (r : IsL K ρ H ds vs) :
    Held K (ρ ++ [p]) (upd H p (.lst vs)) (S ++ [.lst ds]) ∧ Ext ρ H (ρ ++ [p]) (upd H p (.lst vs)) ∧ Is K (ρ ++ [p]) (upd H p (.lst vs)) (.ref S.length) (.ref p) := by
  have e : Ext ρ H (ρ ++ [p]) (upd H p (.lst vs)) := ⟨⟨[p], rfl⟩, fun a u m q => by
    have ne := ne_of_none q n
    exact ⟨by simp [m, ne], by rw [upd_ne ne]; exact q⟩⟩
  exact h.push n ⟨vs, upd_same, r.ext e⟩
/-- a cell is changed -/
theorem Held.ext_write {a : Addr} {o : HO} (m : a ∈ ρ) : Ext ρ H ρ (upd H a o) :=
  ⟨List.prefix_refl _, fun b u n q => ⟨n, by rw [upd_ne (fun z => n (by rw [z]; exact m))]; exact q⟩⟩
theorem Held.write {l : Nat} {a : Addr} {o : HO} {c : Cell} (h : Held K ρ H S) (ha : ρ[l]? = some a) (r : CellAt K ρ (upd H a o) a c) :
    Held K ρ (upd H a o) (S.set l c) ∧ Ext ρ H ρ (upd H a o) := by
  have m : a ∈ ρ := List.mem_of_getElem? ha
  have e : Ext ρ H ρ (upd H a o) := Held.ext_write m
  refine ⟨⟨by simp [h.len], h.nd, fun j c' b h1 h2 => ?_⟩, e⟩
  by_cases hj : l = j
  · subst hj
    rw [ha] at h2; cases h2
    have hl : l < S.length := by rw [← h.len]; exact (List.getElem?_eq_some_iff.mp ha).1
    rw [List.getElem?_set_self hl] at h1
    cases h1
    exact r
  · rw [List.getElem?_set_ne hj] at h1
    have ne : b ≠ a := fun z => by
      subst z
      obtain ⟨h3, e3⟩ := List.getElem?_eq_some_iff.mp ha
      obtain ⟨h4, e4⟩ := List.getElem?_eq_some_iff.mp h2
      exact hj ((List.getElem_inj h.nd).mp (e3.trans e4.symm))
    exact (h.cell j c' b h1 h2).ext e fun o q => by rw [upd_ne ne]; exact q
/-- the cell of a ref -/
theorem Held.at_ {l : Nat} {v : V} {c : Cell} (h : Held K ρ H S) (r : Is K ρ H (.ref l) v) (hc : S[l]? = some c) : ∃ a, v = .ref a ∧ ρ[l]? = some a ∧ CellAt K ρ H a c := by
  rw [Is] at r
  obtain ⟨a, ha, rfl⟩ := r
  exact ⟨a, rfl, ha, h.cell l c a hc ha⟩

/-! ### lists, whether frozen or cells -/
def lstOf (S : Sto) : D → Option (List D)
  | .lst ds => some ds
  | .ref l => match S[l]? with
    | some (.lst ds) => some ds
    | _ => none
  | _ => none
theorem lstOf_ref {l : Nat} {ds : List D} (h : lstOf S (.ref l) = some ds) : S[l]? = some (.lst ds) := by
  unfold lstOf at h
  simp only at h
  split at h
  · rename_i q; cases h; exact q
  · cases h
theorem Held.lstOf {d : D} {v : V} {ds : List D} (h : Held K ρ H S) (r : Is K ρ H d v) (e : lstOf S d = some ds) : ∃ a vs, v = .ref a ∧ H a = some (.lst vs) ∧ IsL K ρ H ds vs := by
  cases d with
  | lst xs =>
    cases e
    rw [Is] at r
    obtain ⟨a, vs, rfl, _, h1, h2⟩ := r
    exact ⟨a, vs, rfl, h1, h2⟩
  | ref l =>
    obtain ⟨a, rfl, _, vs, h1, h2⟩ := h.at_ r (lstOf_ref e)
    exact ⟨a, vs, rfl, h1, h2⟩
  | _ => cases e
/-- the items of a list or a tuple -/
def seqOf (S : Sto) : D → Option (List D)
  | .tup ds => some ds
  | d => lstOf S d
theorem Held.seqOf {d : D} {v : V} {ds : List D} (h : Held K ρ H S) (r : Is K ρ H d v) (e : seqOf S d = some ds) : ∃ a vs, v = .ref a ∧ (SqL K H a vs ∨ SqT K H a vs) ∧ IsL K ρ H ds vs := by
  cases d with
  | tup xs =>
    cases e
    obtain ⟨a, vs, rfl, h1, h2⟩ := r.seqT
    exact ⟨a, vs, rfl, .inr h1, h2⟩
  | lst xs =>
    obtain ⟨a, vs, rfl, h1, h2⟩ := h.lstOf r e
    exact ⟨a, vs, rfl, .inl (SqL.of h1), h2⟩
  | ref l =>
    obtain ⟨a, vs, rfl, h1, h2⟩ := h.lstOf r e
    exact ⟨a, vs, rfl, .inl (SqL.of h1), h2⟩
  | _ => cases e
end

/-! ### the passage from a reading to an outcome's -/
theorem _root_.L2.PE.md {X : Cx} {W : WX} {e : Expr} {te : TE} {m : ED} (h : PE X e te) (k : ∀ σ H Q, tE X.K W m σ H Q → te σ H Q) : PE X e (tE X.K W m) :=
  ⟨fun pins s σ H Q I q => h.run pins s σ H Q I (k _ _ _ q)⟩
theorem _root_.L2.PT.md {X : Cx} {W : WX} {e : Expr} {t : TT} {m : BD} (h : PT X e t) (k : ∀ σ H Q, tT X.K W m σ H Q → t σ H Q) : PT X e (tT X.K W m) :=
  ⟨fun pins s σ H Q I q => h.run pins s σ H Q I (k _ _ _ q)⟩
theorem _root_.L2.PW.md {X : Cx} {W : WX} {e : Expr} {t : TT} {m : BD} (h : PW X e t) (k : ∀ σ H Q, tT X.K W m σ H Q → t σ H Q) : PW X e (tT X.K W m) :=
  ⟨fun wh pins s σ H Q I q => h.run wh pins s σ H Q I (k _ _ _ q)⟩
theorem _root_.L2.PA.md {X : Cx} {W : WX} {es : List Expr} {t : TA} {m : AD} (h : PA X es t) (k : ∀ σ H Q, tA X.K W m σ H Q → t σ H Q) : PA X es (tA X.K W m) :=
  ⟨fun pos pins s σ H Q I q => h.run pos pins s σ H Q I (k _ _ _ q)⟩

section
variable {X : Cx} {W : WX} {a b c e : Expr} {es : List Expr} {ma mb mc : ED} {mt mu : BD} {ml : AD} {pos : Pos}

/-! ### names, constants -/
def mVar (i : Nat) : ED := fun loc S => match loc[i]? with
  | some (some d) => .ok d S
  | _ => .no
def mC (d : D) : ED := fun _ S => .ok d S
theorem pm_var {i : Nat} {x : Str} {p : Pos} (h : PE X (.Name x p) (tVar i)) : PE X (.Name x p) (tE X.K W (mVar i)) :=
  h.md fun σ H Q ⟨ρ, loc, S, rl, hd, g⟩ => by
    unfold mVar at g
    split at g
    · rename_i d q
      obtain ⟨v, h1, h2⟩ := rl.at_ i d q
      exact ⟨v, h1, g.ret hd h2⟩
    · exact g.elim
theorem pm_c {v : V} {d : D} (h : PE X e (tC v)) (hv : ∀ ρ H, Is X.K ρ H d v) : PE X e (tE X.K W (mC d)) :=
  h.md fun σ H Q ⟨ρ, loc, S, rl, hd, g⟩ => Good.ret g hd (hv ρ H)
theorem pm_int {i j} : PE X (.Constant (.int i) j pos) (tE X.K W (mC (.int i))) := pm_c pe_int fun _ _ => by rw [Is]
theorem pm_bl {i j} : PE X (.Constant (.bool i) j pos) (tE X.K W (mC (.bl i))) := pm_c pe_bl fun _ _ => by rw [Is]
theorem pm_non {j} : PE X (.Constant .none j pos) (tE X.K W (mC .non)) := pm_c pe_non fun _ _ => by rw [Is]
theorem pm_str {i j} : PE X (.Constant (.str i) j pos) (tE X.K W (mC (.str i))) := pm_c pe_str fun _ _ => by rw [Is]

/-! ### operators by values -/
def RopOk (K : PySem.W.Frag) (r : R2) (f : D → D → Sto → Out D) : Prop :=
  ∀ (W : WX) (σ : St) (Q : VK) (ρ : List Addr) (H : Hp) (S : Sto) (dx dy : D) (x y : V), Held K ρ H S → Is K ρ H dx x → Is K ρ H dy y → Good K W σ (Is K) Q ρ H (f dx dy S) → r x y H Q
def mOp (f : D → D → Sto → Out D) (ma mb : ED) : ED := fun loc S => (ma loc S).bind fun x S1 => (mb loc S1).bind fun y S2 => f x y S2
theorem md_op {r : R2} {f : D → D → Sto → Out D} {K : PySem.W.Frag} (hr : RopOk K r f) {σ : St} {H : Hp} {Q : VK} (h : tE K W (mOp f ma mb) σ H Q) : tOp r (tE K W ma) (tE K W mb) σ H Q := by
  obtain ⟨ρ, loc, S, rl, hd, g⟩ := h
  refine ⟨ρ, loc, S, rl, hd, Good.bind g fun dx S1 ρ1 H1 x hd1 e1 r1 g1 => ?_⟩
  refine ⟨ρ1, loc, S1, rl.ext e1, hd1, Good.bind g1 fun dy S2 ρ2 H2 y hd2 e2 r2 g2 => ?_⟩
  exact hr W σ Q ρ2 H2 S2 dx dy x y hd2 (r1.ext e2) r2 g2
theorem pm_op {op : Operator} {r : R2} {f : D → D → Sto → Out D} (ho : OpR X (binaryOp op) r) (hr : RopOk X.K r f) (ha : PE X a (tE X.K W ma)) (hb : PE X b (tE X.K W mb)) :
    PE X (.BinOp a op b pos) (tE X.K W (mOp f ma mb)) := (pe_op ho ha hb).md fun _ _ _ h => md_op hr h
theorem pm_cmp {op : CmpOp} {r : R2} {f : D → D → Sto → Out D} (ho : OpR X (compareOp op) r) (hr : RopOk X.K r f) (ha : PE X a (tE X.K W ma)) (hb : PE X b (tE X.K W mb)) (hm : behindInMarks op b = false) :
    PE X (.Compare a [op] [b] pos) (tE X.K W (mOp f ma mb)) := (pe_cmpR ho ha hb hm).md fun _ _ _ h => md_op hr h
/-- a truth value, as a test -/
def mB (m : ED) : BD := fun loc S => (m loc S).bind fun d S1 => match d with
  | .bl b => .ok b S1
  | _ => .no
theorem pm_cmpT {op : CmpOp} {r : R2} {f : D → D → Sto → Out D} (ho : OpR X (compareOp op) r) (hr : RopOk X.K r f) (ha : PE X a (tE X.K W ma)) (hb : PE X b (tE X.K W mb)) (hm : behindInMarks op b = false) :
    PT X (.Compare a [op] [b] pos) (tT X.K W (mB (mOp f ma mb))) := (pt_cmpR ho ha hb hm).md fun σ H Q h => by
  obtain ⟨ρ, loc, S, rl, hd, g⟩ := h
  refine md_op hr ⟨ρ, loc, S, rl, hd, Good.bind g fun d S1 ρ1 H1 x hd1 e1 r1 g1 => ?_⟩
  cases d with
  | bl k =>
    rw [Is] at r1
    exact ⟨k, r1, g1.ret hd1 rfl⟩
  | _ => exact g1.elim
/-! ### one operand -/
def RuOk (K : PySem.W.Frag) (r : V → Hp → VK → Prop) (f : D → Sto → Out D) : Prop :=
  ∀ (W : WX) (σ : St) (Q : VK) (ρ : List Addr) (H : Hp) (S : Sto) (dx : D) (x : V), Held K ρ H S → Is K ρ H dx x → Good K W σ (Is K) Q ρ H (f dx S) → r x H Q
def mUn (f : D → Sto → Out D) (ma : ED) : ED := fun loc S => (ma loc S).bind f
theorem pm_un {op : UnaryOp} {r : V → Hp → VK → Prop} {f : D → Sto → Out D} (ho : UnR X (unaryOp op) r) (hr : RuOk X.K r f) (ha : PE X a (tE X.K W ma)) : PE X (.UnaryOp op a pos) (tE X.K W (mUn f ma)) :=
  (pe_un ho ha).md fun σ H Q ⟨ρ, loc, S, rl, hd, g⟩ => ⟨ρ, loc, S, rl, hd, Good.bind g fun dx S1 ρ1 H1 x hd1 e1 r1 g1 => hr W σ Q ρ1 H1 S1 dx x hd1 r1 g1⟩
def fNeg : D → Sto → Out D
  | .int i, S => .ok (.int (-i)) S
  | _, _ => .no
theorem ru_neg {K : PySem.W.Frag} : RuOk K (rU fun i => .int (-i)) fNeg := fun W σ Q ρ H S dx x hd r g => by
  cases dx with
  | int i => rw [Is] at r; exact ⟨i, r, g.ret hd (by rw [Is])⟩
  | _ => exact g.elim

/-! ### tests -/
/-- truth -/
def truD (S : Sto) : D → Option Bool
  | .non => some false
  | .bl b => some b
  | .int i => some (i != 0)
  | .str x => if x.length ≤ sizeLine then some ((x.length : Int) != 0) else none
  | .tup ds => some (!ds.isEmpty)
  | .lst ds => some (!ds.isEmpty)
  | .ref l => match S[l]? with
    | some (.lst ds) => some (!ds.isEmpty)
    | some (.dct kvs) => some (!kvs.isEmpty)
    | _ => none
  | _ => none
def mTru (m : ED) : BD := fun loc S => (m loc S).bind fun d S1 => need (truD S1 d) fun b => .ok b S1
theorem isEmpty_IsL {K : PySem.W.Frag} {ρ : List Addr} {H : Hp} : ∀ {ds : List D} {vs : List V}, IsL K ρ H ds vs → ds.isEmpty = vs.isEmpty
  | [], _, h => by rw [IsL] at h; subst h; rfl
  | _ :: _, _, h => by rw [IsL] at h; obtain ⟨_, _, rfl, _⟩ := h; rfl
theorem isEmpty_IsKV {K : PySem.W.Frag} {ρ : List Addr} {H : Hp} : ∀ {ds : List (D × D)} {vs : List (Key × V)}, IsKV K ρ H ds vs → ds.isEmpty = vs.isEmpty
  | [], _, h => by cases h; rfl
  | _ :: _, _, h => by obtain ⟨_, _, _, rfl, _⟩ := h; rfl
theorem truD_ok {K : PySem.W.Frag} {ρ : List Addr} {H : Hp} {S : Sto} {d : D} {v : V} {k : Bool} (hd : Held K ρ H S) (r : Is K ρ H d v) (h : truD S d = some k) : TruV K v H k := by
  cases d with
  | non => rw [Is] at r; subst r; cases h; exact rfl
  | bl b => rw [Is] at r; subst r; cases h; exact rfl
  | int i => rw [Is] at r; subst r; cases h; exact rfl
  | str x =>
    rw [Is] at r; subst r
    unfold truD at h
    simp only at h
    split at h
    · rename_i hx; cases h; exact ⟨hx, rfl⟩
    · cases h
  | tup ds =>
    obtain ⟨a, vs, rfl, h1, h2⟩ := r.seqT
    cases h
    exact .inr (.inl ⟨vs, h1, by rw [isEmpty_IsL h2]⟩)
  | lst ds =>
    rw [Is] at r
    obtain ⟨a, vs, rfl, _, h1, h2⟩ := r
    cases h
    exact .inl ⟨vs, SqL.of h1, by rw [isEmpty_IsL h2]⟩
  | ref l =>
    unfold truD at h
    simp only at h
    split at h
    · rename_i ds q
      obtain ⟨a, rfl, _, vs, h1, h2⟩ := hd.at_ r q
      cases h
      exact .inl ⟨vs, SqL.of h1, by rw [isEmpty_IsL h2]⟩
    · rename_i ds q
      obtain ⟨a, rfl, _, vs, h1, h2⟩ := hd.at_ r q
      cases h
      exact .inr (.inr ⟨vs, h1, by rw [isEmpty_IsKV h2]⟩)
    · cases h
  | adr a => cases h
  | scr ns => cases h
  | edc => cases h
  | wtu _ => cases h
  | lsx _ => cases h
  | fn x => cases h
theorem pm_tru (ha : PE X a (tE X.K W ma)) (he : ∀ whole, isTrue a X.env whole = (do let v ← whole; standAt a.pos; holding [v] (truthy v)) := by intro _; rfl) : PT X a (tT X.K W (mTru ma)) :=
  (pt_truth ha he).md fun σ H Q ⟨ρ, loc, S, rl, hd, g⟩ => ⟨ρ, loc, S, rl, hd, Good.bind g fun dx S1 ρ1 H1 x hd1 e1 r1 g1 => by
    obtain ⟨k, hk, g2⟩ := g1.need
    exact ⟨k, truD_ok hd1 r1 hk, g2.ret hd1 rfl⟩⟩
def mNot (m : BD) : BD := fun loc S => (m loc S).bind fun b S1 => .ok (!b) S1
theorem pm_not (ha : PT X a (tT X.K W mt)) : PT X (.UnaryOp .Not a pos) (tT X.K W (mNot mt)) :=
  (pt_not ha).md fun σ H Q ⟨ρ, loc, S, rl, hd, g⟩ => ⟨ρ, loc, S, rl, hd, Good.bind g fun b S1 ρ1 H1 x hd1 e1 r1 g1 => by
    have r1 : b = x := r1
    subst r1
    exact g1.ret hd1 rfl⟩
def mAnd (mt mu : BD) : BD := fun loc S => (mt loc S).bind fun b S1 => if b then mu loc S1 else .ok false S1
def mOr (mt mu : BD) : BD := fun loc S => (mt loc S).bind fun b S1 => if b then .ok true S1 else mu loc S1
theorem pmw_and1 (ha : PT X a (tT X.K W mt)) : PW X (.BoolOp .And [a] pos) (tT X.K W mt) := pw_and1 ha
theorem pmw_or1 (ha : PT X a (tT X.K W mt)) : PW X (.BoolOp .Or [a] pos) (tT X.K W mt) := pw_or1 ha
theorem pmw_and (ha : PT X a (tT X.K W mt)) (hb : PW X (.BoolOp .And (b :: es) pos) (tT X.K W mu)) : PW X (.BoolOp .And (a :: b :: es) pos) (tT X.K W (mAnd mt mu)) :=
  (pw_and ha hb).md fun σ H Q ⟨ρ, loc, S, rl, hd, g⟩ => ⟨ρ, loc, S, rl, hd, Good.bind g fun k S1 ρ1 H1 x hd1 e1 r1 g1 => by
    have r1 : k = x := r1
    subst r1
    cases k with
    | true => exact iteT ⟨ρ1, loc, S1, rl.ext e1, hd1, g1⟩
    | false => exact iteF (g1.ret hd1 rfl)⟩
theorem pmw_or (ha : PT X a (tT X.K W mt)) (hb : PW X (.BoolOp .Or (b :: es) pos) (tT X.K W mu)) : PW X (.BoolOp .Or (a :: b :: es) pos) (tT X.K W (mOr mt mu)) :=
  (pw_or ha hb).md fun σ H Q ⟨ρ, loc, S, rl, hd, g⟩ => ⟨ρ, loc, S, rl, hd, Good.bind g fun k S1 ρ1 H1 x hd1 e1 r1 g1 => by
    have r1 : k = x := r1
    subst r1
    cases k with
    | true => exact iteT (g1.ret hd1 rfl)
    | false => exact iteF ⟨ρ1, loc, S1, rl.ext e1, hd1, g1⟩⟩
/-! ### as values -/
def mNotV (m : ED) : ED := fun loc S => (m loc S).bind fun d S1 => match d with
  | .bl b => .ok (.bl (!b)) S1
  | _ => .no
theorem pm_notV (ha : PE X a (tE X.K W ma)) : PE X (.UnaryOp .Not a pos) (tE X.K W (mNotV ma)) :=
  (pe_not ha).md fun σ H Q ⟨ρ, loc, S, rl, hd, g⟩ => ⟨ρ, loc, S, rl, hd, Good.bind g fun d S1 ρ1 H1 x hd1 e1 r1 g1 => by
    cases d with
    | bl b => rw [Is] at r1; exact ⟨b, r1, g1.ret hd1 (by rw [Is])⟩
    | _ => exact g1.elim⟩
def mAndV (ma mb : ED) : ED := fun loc S => (ma loc S).bind fun d S1 => match d with
  | .bl true => mb loc S1
  | .bl false => .ok (.bl false) S1
  | _ => .no
def mOrV (ma mb : ED) : ED := fun loc S => (ma loc S).bind fun d S1 => match d with
  | .bl true => .ok (.bl true) S1
  | .bl false => mb loc S1
  | _ => .no
theorem pmv_one {op} (ha : PE X a (tE X.K W ma)) : PE X (.BoolOp op [a] pos) (tE X.K W ma) := pe_one ha
theorem pmv_and (ha : PE X a (tE X.K W ma)) (hb : PE X (.BoolOp .And (b :: es) pos) (tE X.K W mb)) : PE X (.BoolOp .And (a :: b :: es) pos) (tE X.K W (mAndV ma mb)) :=
  (pe_and ha hb).md fun σ H Q ⟨ρ, loc, S, rl, hd, g⟩ => ⟨ρ, loc, S, rl, hd, Good.bind g fun d S1 ρ1 H1 x hd1 e1 r1 g1 => by
    cases d with
    | bl k =>
      rw [Is] at r1
      refine ⟨k, r1, ?_⟩
      cases k with
      | true => exact iteT ⟨ρ1, loc, S1, rl.ext e1, hd1, g1⟩
      | false => exact iteF (g1.ret hd1 (by rw [Is]))
    | _ => exact g1.elim⟩
theorem pmv_or (ha : PE X a (tE X.K W ma)) (hb : PE X (.BoolOp .Or (b :: es) pos) (tE X.K W mb)) : PE X (.BoolOp .Or (a :: b :: es) pos) (tE X.K W (mOrV ma mb)) :=
  (pe_or ha hb).md fun σ H Q ⟨ρ, loc, S, rl, hd, g⟩ => ⟨ρ, loc, S, rl, hd, Good.bind g fun d S1 ρ1 H1 x hd1 e1 r1 g1 => by
    cases d with
    | bl k =>
      rw [Is] at r1
      refine ⟨k, r1, ?_⟩
      cases k with
      | true => exact iteT (g1.ret hd1 (by rw [Is]))
      | false => exact iteF ⟨ρ1, loc, S1, rl.ext e1, hd1, g1⟩
    | _ => exact g1.elim⟩
def mIf (mt : BD) (ma mb : ED) : ED := fun loc S => (mt loc S).bind fun k S1 => if k then ma loc S1 else mb loc S1
theorem pm_if (hc : PT X c (tT X.K W mt)) (ha : PE X a (tE X.K W ma)) (hb : PE X b (tE X.K W mb)) : PE X (.IfExp c a b pos) (tE X.K W (mIf mt ma mb)) :=
  (pe_ifExp hc ha hb).md fun σ H Q ⟨ρ, loc, S, rl, hd, g⟩ => ⟨ρ, loc, S, rl, hd, Good.bind g fun k S1 ρ1 H1 x hd1 e1 r1 g1 => by
    have r1 : k = x := r1
    subst r1
    cases k with
    | true => exact iteT ⟨ρ1, loc, S1, rl.ext e1, hd1, g1⟩
    | false => exact iteF ⟨ρ1, loc, S1, rl.ext e1, hd1, g1⟩⟩

/-! ### arguments, displays -/
def mNil : AD := fun _ S => .ok [] S
def mCons (ma : ED) (ml : AD) : AD := fun loc S => (ma loc S).bind fun d S1 => (ml loc S1).bind fun ds S2 => .ok (d :: ds) S2
theorem pma_nil : PA X [] (tA X.K W mNil) := pa_nil.md fun σ H Q ⟨ρ, loc, S, rl, hd, g⟩ => Good.ret g hd IsL.nil
theorem pma_cons (ha : PE X e (tE X.K W ma)) (hr : PA X es (tA X.K W ml)) (hs : starEach (e :: es) X.env = (false, eval e X.env) :: starEach es X.env := by rfl) : PA X (e :: es) (tA X.K W (mCons ma ml)) :=
  (pa_cons ha hr hs).md fun σ H Q ⟨ρ, loc, S, rl, hd, g⟩ => ⟨ρ, loc, S, rl, hd, Good.bind g fun d S1 ρ1 H1 x hd1 e1 r1 g1 =>
    ⟨ρ1, loc, S1, rl.ext e1, hd1, Good.bind g1 fun ds S2 ρ2 H2 xs hd2 e2 r2 g2 => Good.ret g2 hd2 (IsL.cons (r1.ext e2) r2)⟩⟩
def small (n : Nat) : Bool := decide (n ≤ 1000000)
theorem small_line {n : Nat} (h : small n = true) : n ≤ sizeLine := Nat.le_trans (of_decide_eq_true h) (by decide)
theorem small_lt {n : Nat} (h : small n = true) : n < sizeLine := Nat.lt_of_le_of_lt (of_decide_eq_true h) (by decide)
def mTup (ml : AD) : ED := fun loc S => (ml loc S).bind fun ds S1 => guardO (small ds.length) (.ok (.tup ds) S1)
theorem pm_tup {x1} (h : PA X es (tA X.K W ml)) : PE X (.Tuple es x1 pos) (tE X.K W (mTup ml)) :=
  (pe_tupX h).md fun σ H Q ⟨ρ, loc, S, rl, hd, g⟩ => ⟨ρ, loc, S, rl, hd, Good.bind g fun ds S1 ρ1 H1 xs hd1 e1 r1 g1 => by
    obtain ⟨hs, g2⟩ := g1.guard
    refine ⟨by rw [r1.length]; exact small_line hs, fun p ob np nd => ?_⟩
    obtain ⟨h3, e3, r3⟩ := hd1.newX np nd r1
    exact g2 ρ1 _ _ h3 e3 r3⟩
/-- a list that will not be changed -/
def mLst (ml : AD) : ED := fun loc S => (ml loc S).bind fun ds S1 => guardO (small ds.length) (.ok (.lst ds) S1)
theorem pm_lst (h : PA X es (tA X.K W ml)) : PE X (.List es pos) (tE X.K W (mLst ml)) :=
  (pe_lst h).md fun σ H Q ⟨ρ, loc, S, rl, hd, g⟩ => ⟨ρ, loc, S, rl, hd, Good.bind g fun ds S1 ρ1 H1 xs hd1 e1 r1 g1 => by
    obtain ⟨hs, g2⟩ := g1.guard
    refine ⟨by rw [r1.length]; exact small_line hs, fun p np => ?_⟩
    obtain ⟨h3, e3, r3⟩ := hd1.newL np r1
    exact g2 ρ1 _ _ h3 e3 r3⟩
/-- a list that will be changed: a cell -/
def mLstO (ml : AD) : ED := fun loc S => (ml loc S).bind fun ds S1 => guardO (small ds.length) (.ok (.ref S1.length) (S1 ++ [.lst ds]))
theorem pm_lstO (h : PA X es (tA X.K W ml)) : PE X (.List es pos) (tE X.K W (mLstO ml)) :=
  (pe_lst h).md fun σ H Q ⟨ρ, loc, S, rl, hd, g⟩ => ⟨ρ, loc, S, rl, hd, Good.bind g fun ds S1 ρ1 H1 xs hd1 e1 r1 g1 => by
    obtain ⟨hs, g2⟩ := g1.guard
    refine ⟨by rw [r1.length]; exact small_line hs, fun p np => ?_⟩
    obtain ⟨h3, e3, r3⟩ := hd1.pushL np r1
    exact g2 _ _ _ h3 e3 r3⟩
end
end Md

set_option Elab.async false
set_option linter.all false
set_option maxRecDepth 100000
/-! Md2: operators and comparisons by outcomes. -/
namespace Md
open PySem L2

/-- an operator's reading by outcomes -/
def rM (K : PySem.W.Frag) (f : D → D → Sto → Out D) : R2 := fun x y H Q =>
  ∃ (W : WX) (σ : St) (ρ : List Addr) (S : Sto) (dx dy : D), Held K ρ H S ∧ Is K ρ H dx x ∧ Is K ρ H dy y ∧ Good K W σ (Is K) Q ρ H (f dx dy S)
theorem rM_ok {K : PySem.W.Frag} {f : D → D → Sto → Out D} : RopOk K (rM K f) f := fun W σ Q ρ H S dx dy x y h1 h2 h3 h4 => ⟨W, σ, ρ, S, dx, dy, h1, h2, h3, h4⟩

/-! ### numbers -/
def fInts (C : Int → Int → Bool) (g : Int → Int → D) : D → D → Sto → Out D
  | .int i, .int j, S => guardO (C i j) (.ok (g i j) S)
  | _, _, _ => .no
theorem fInts_at {K : PySem.W.Frag} {C : Int → Int → Bool} {g : Int → Int → D} {x y : V} {H : Hp} {Q : VK} (h : rM K (fInts C g) x y H Q) :
    ∃ i j, x = .int i ∧ y = .int j ∧ C i j = true ∧ ∀ v, (∀ ρ, Is K ρ H (g i j) v) → Q v H := by
  obtain ⟨W, σ, ρ, S, dx, dy, hd, r1, r2, g1⟩ := h
  cases dx with
  | int i =>
    cases dy with
    | int j =>
      rw [Is] at r1 r2
      obtain ⟨hc, g2⟩ := g1.guard
      exact ⟨i, j, r1, r2, hc, fun v hv => g2.ret hd (hv ρ)⟩
    | _ => exact g1.elim
  | _ => exact g1.elim
section
variable {X : Cx}
abbrev fSub := fInts (fun _ _ => true) fun i j => .int (i - j)
theorem om_sub : OpR X (binaryOp .Sub) (rM X.K fSub) := fun pins s σ H x y v u Q I rx ry h => by
  obtain ⟨i, j, e1, e2, _, q⟩ := fInts_at h
  exact op_sub pins s σ H x y v u Q I rx ry ⟨i, j, e1, e2, q _ fun ρ => by rw [Is]⟩
def CDivW (i j : Int) : Prop := j ≠ 0 ∧ j.natAbs < 18446744073709551616
theorem log2_64 {n : Nat} (h : n < 18446744073709551616) : n.log2 < 9000 := by
  by_cases h0 : n = 0
  · rw [h0]; decide +kernel
  · have h64 : n.log2 < 64 := (Nat.log2_lt h0).mpr h
    omega
theorem op_fdivW : OpR X (binaryOp .FloorDiv) (rI CDivW fun i j => .int (i.fdiv j)) := opI fun _ _ _ _ _ _ _ hc q => PyProof.Rows.floordiv_int hc.1 q (.inl (PyProof.noPylong_of_log2 (log2_64 hc.2)))
abbrev fFdiv := fInts (fun _ j => decide (j ≠ 0 ∧ j.natAbs < 18446744073709551616)) fun i j => .int (i.fdiv j)
theorem om_fdiv : OpR X (binaryOp .FloorDiv) (rM X.K fFdiv) := fun pins s σ H x y v u Q I rx ry h => by
  obtain ⟨i, j, e1, e2, c, q⟩ := fInts_at h
  exact op_fdivW pins s σ H x y v u Q I rx ry ⟨i, j, e1, e2, (of_decide_eq_true c : j ≠ 0 ∧ j.natAbs < 18446744073709551616), q _ fun ρ => by rw [Is]⟩
abbrev fMod := fInts (fun _ j => decide (j ≠ 0)) fun i j => .int (i.fmod j)
theorem om_mod : OpR X (binaryOp .Mod) (rM X.K fMod) := fun pins s σ H x y v u Q I rx ry h => by
  obtain ⟨i, j, e1, e2, c, q⟩ := fInts_at h
  exact op_modN pins s σ H x y v u Q I rx ry ⟨i, j, e1, e2, of_decide_eq_true c, q _ fun ρ => by rw [Is]⟩
def cPow (i j : Int) : Bool := decide (0 ≤ j ∧ j ≤ 1000000 ∧ i.natAbs < 2 ^ 64)
abbrev fPow := fInts cPow fun i j => .int (i ^ j.toNat)
theorem om_pow : OpR X (binaryOp .Pow) (rM X.K fPow) := fun pins s σ H x y v u Q I rx ry h => by
  obtain ⟨i, j, e1, e2, c, q⟩ := fInts_at h
  exact L2.op_pow pins s σ H x y v u Q I rx ry ⟨i, j, e1, e2, (of_decide_eq_true c : 0 ≤ j ∧ j ≤ 1000000 ∧ i.natAbs < 2 ^ 64), q _ fun ρ => by rw [Is]⟩
abbrev fShl := fInts cPow fun i j => .int (i * 2 ^ j.toNat)
theorem om_shl : OpR X (binaryOp .LShift) (rM X.K fShl) := fun pins s σ H x y v u Q I rx ry h => by
  obtain ⟨i, j, e1, e2, c, q⟩ := fInts_at h
  exact L2.op_shl pins s σ H x y v u Q I rx ry ⟨i, j, e1, e2, (of_decide_eq_true c : 0 ≤ j ∧ j ≤ 1000000 ∧ i.natAbs < 2 ^ 64), q _ fun ρ => by rw [Is]⟩
abbrev fShr := fInts (fun _ j => decide (0 ≤ j)) fun i j => .int (i / 2 ^ j.toNat)
theorem om_shr : OpR X (binaryOp .RShift) (rM X.K fShr) := fun pins s σ H x y v u Q I rx ry h => by
  obtain ⟨i, j, e1, e2, c, q⟩ := fInts_at h
  exact L2.op_shr pins s σ H x y v u Q I rx ry ⟨i, j, e1, e2, of_decide_eq_true c, q _ fun ρ => by rw [Is]⟩
abbrev fBand := fInts (fun _ _ => true) fun i j => .int (Builtin.bitAnd i j)
theorem om_band : OpR X (binaryOp .BitAnd) (rM X.K fBand) := fun pins s σ H x y v u Q I rx ry h => by
  obtain ⟨i, j, e1, e2, _, q⟩ := fInts_at h
  exact L2.op_and pins s σ H x y v u Q I rx ry ⟨i, j, e1, e2, q _ fun ρ => by rw [Is]⟩
abbrev fBor := fInts (fun _ _ => true) fun i j => .int (Builtin.bitOr i j)
theorem om_bor : OpR X (binaryOp .BitOr) (rM X.K fBor) := fun pins s σ H x y v u Q I rx ry h => by
  obtain ⟨i, j, e1, e2, _, q⟩ := fInts_at h
  exact L2.op_or pins s σ H x y v u Q I rx ry ⟨i, j, e1, e2, q _ fun ρ => by rw [Is]⟩

/-! ### + and * -/
def fAdd : D → D → Sto → Out D
  | .int i, .int j, S => .ok (.int (i + j)) S
  | .str i, .str j, S => guardO (small (i.length + j.length)) (.ok (.str (i ++ j)) S)
  | .tup a, .tup b, S => guardO (small (a.length + b.length)) (.ok (.tup (a ++ b)) S)
  | d, e, S => need (lstOf S d) fun a => need (lstOf S e) fun b => guardO (small (a.length + b.length)) (.ok (.lst (a ++ b)) S)
theorem add_lists {d e : D} {ρ : List Addr} {H : Hp} {S : Sto} {W : WX} {σ σ' : St} {Q : VK} {pins : List (Addr × Obj)} {s : Shared} {x y : V} {v u : Value} (hd : Held X.K ρ H S) (r1 : Is X.K ρ H d x) (r2 : Is X.K ρ H e y)
    (g : Good X.K W σ' (Is X.K) Q ρ H (need (lstOf S d) fun a => need (lstOf S e) fun b => guardO (small (a.length + b.length)) (.ok (.lst (a ++ b)) S))) (I : Inv X pins σ H s) (rx : RelV x v) (ry : RelV y u) :
    wpAny (model X.prog X.w) X.A (binaryOp .Add v u) (EP X pins σ Q) X.xe s := by
  obtain ⟨a, ha, g⟩ := g.need
  obtain ⟨b, hb, g⟩ := g.need
  obtain ⟨hs, g⟩ := g.guard
  obtain ⟨p, vs, rfl, h1, i1⟩ := hd.lstOf r1 ha
  obtain ⟨q, us, rfl, h2, i2⟩ := hd.lstOf r2 hb
  refine op_cat pins s σ H _ _ v u Q I rx ry ⟨p, q, vs, us, rfl, rfl, h1, h2, by rw [i1.length, i2.length]; exact small_line hs, fun z nz => ?_⟩
  obtain ⟨h3, e3, r3⟩ := hd.newL nz (i1.append i2)
  exact g ρ _ _ h3 e3 r3
theorem om_add : OpR X (binaryOp .Add) (rM X.K fAdd) := fun pins s σ H x y v u Q I rx ry ⟨W, σ', ρ, S, dx, dy, hd, r1, r2, g⟩ => by
  cases dx with
  | int i =>
    cases dy with
    | int j =>
      rw [Is] at r1 r2
      exact op_add pins s σ H x y v u Q I rx ry ⟨i, j, r1, r2, g.ret hd (by rw [Is])⟩
    | _ => exact add_lists hd r1 r2 g I rx ry
  | str i =>
    cases dy with
    | str j =>
      rw [Is] at r1 r2
      obtain ⟨hs, g⟩ := g.guard
      exact op_add_str pins s σ H x y v u Q I rx ry ⟨i, j, r1, r2, small_line hs, g.ret hd (by rw [Is])⟩
    | _ => exact add_lists hd r1 r2 g I rx ry
  | tup a =>
    cases dy with
    | tup b =>
      obtain ⟨hs, g⟩ := g.guard
      obtain ⟨p, vs, rfl, h1, i1⟩ := r1.seqT
      obtain ⟨q, us, rfl, h2, i2⟩ := r2.seqT
      refine op_catX pins s σ H _ _ v u Q I rx ry ⟨p, q, vs, us, rfl, rfl, h1, h2, by rw [i1.length, i2.length]; exact small_line hs, fun z => ?_, fun _ z => ?_, fun _ _ z ob nz nd => ?_⟩
      · subst z
        have : a = [] := by
          have := i1.length
          cases a with
          | nil => rfl
          | cons => simp at this
        subst this
        exact g.ret hd (by simpa using r2)
      · subst z
        have : b = [] := by
          have := i2.length
          cases b with
          | nil => rfl
          | cons => simp at this
        subst this
        exact g.ret hd (by simpa using r1)
      · obtain ⟨h3, e3, r3⟩ := hd.newX nz nd (i1.append i2)
        exact g ρ _ _ h3 e3 r3
    | _ => exact add_lists hd r1 r2 g I rx ry
  | _ => exact add_lists hd r1 r2 g I rx ry
/-- * of numbers; a list or a tuple so many times -/
def cMul (i j : Int) : Bool := decide ((-(2 ^ 64) < i ∧ i < 2 ^ 64) ∨ (-(2 ^ 64) < j ∧ j < 2 ^ 64)) || decide (i.natAbs.log2 + j.natAbs.log2 < 1000000)
def rep (n : Nat) (ds : List D) : List D := (List.replicate n ds).flatten
def fMul : D → D → Sto → Out D
  | .int i, .int j, S => guardO (cMul i j) (.ok (.int (i * j)) S)
  | .tup a, .int k, S => guardO (decide (a ≠ [] ∧ 2 ≤ k ∧ k ≤ 1000 ∧ a.length ≤ 1000)) (.ok (.tup (rep k.toNat a)) S)
  | d, .int k, S => need (lstOf S d) fun a => guardO (decide (-1000 ≤ k ∧ k ≤ 1000 ∧ a.length ≤ 1000)) (.ok (.lst (rep k.toNat a)) S)
  | _, _, _ => .no
theorem IsL.rep {K : PySem.W.Frag} {ρ : List Addr} {H : Hp} {ds : List D} {vs : List V} (h : IsL K ρ H ds vs) : ∀ n, IsL K ρ H (rep n ds) ((List.replicate n vs).flatten)
  | 0 => IsL.nil
  | n + 1 => by
    unfold Md.rep
    rw [List.replicate_succ, List.replicate_succ, List.flatten_cons, List.flatten_cons]
    exact IsL.append h (IsL.rep h n)
theorem mul_list {d : D} {k : Int} {ρ : List Addr} {H : Hp} {S : Sto} {W : WX} {σ σ' : St} {Q : VK} {pins : List (Addr × Obj)} {s : Shared} {x y : V} {v u : Value} (hd : Held X.K ρ H S) (r1 : Is X.K ρ H d x) (r2 : Is X.K ρ H (.int k) y)
    (g : Good X.K W σ' (Is X.K) Q ρ H (need (lstOf S d) fun a => guardO (decide (-1000 ≤ k ∧ k ≤ 1000 ∧ a.length ≤ 1000)) (.ok (.lst (Md.rep k.toNat a)) S))) (I : Inv X pins σ H s) (rx : RelV x v) (ry : RelV y u) :
    wpAny (model X.prog X.w) X.A (binaryOp .Mult v u) (EP X pins σ Q) X.xe s := by
  obtain ⟨a, ha, g⟩ := g.need
  obtain ⟨hs, g⟩ := g.guard
  have hs := of_decide_eq_true hs
  obtain ⟨p, vs, rfl, h1, i1⟩ := hd.lstOf r1 ha
  rw [Is] at r2
  refine op_rep pins s σ H _ _ v u Q I rx ry ⟨p, k, vs, rfl, r2, h1, by omega, by omega, ?_, fun z nz => ?_⟩
  · rw [i1.length]
    have : a.length * k.toNat ≤ 1000 * 1000 := Nat.mul_le_mul hs.2.2 (by omega)
    exact Nat.le_trans this (by decide)
  · obtain ⟨h3, e3, r3⟩ := hd.newL nz (i1.rep k.toNat)
    exact g ρ _ _ h3 e3 r3
theorem om_mul : OpR X (binaryOp .Mult) (rM X.K fMul) := fun pins s σ H x y v u Q I rx ry ⟨W, σ', ρ, S, dx, dy, hd, r1, r2, g⟩ => by
  cases dy with
  | int k =>
    cases dx with
    | int i =>
      obtain ⟨hc, g⟩ := g.guard
      rw [Is] at r1 r2
      unfold cMul at hc
      rcases Bool.or_eq_true_iff.mp hc with c | c
      · exact op_mul pins s σ H x y v u Q I rx ry ⟨i, k, r1, r2, (of_decide_eq_true c : (-(2 ^ 64) < i ∧ i < 2 ^ 64) ∨ (-(2 ^ 64) < k ∧ k < 2 ^ 64)), g.ret hd (by rw [Is])⟩
      · exact op_mulW pins s σ H x y v u Q I rx ry ⟨i, k, r1, r2, (of_decide_eq_true c : i.natAbs.log2 + k.natAbs.log2 < 1000000), g.ret hd (by rw [Is])⟩
    | tup a =>
      obtain ⟨hc, g⟩ := g.guard
      obtain ⟨c1, c2, c3, c4⟩ := of_decide_eq_true hc
      obtain ⟨p, vs, rfl, h1, i1⟩ := r1.seqT
      rw [Is] at r2
      refine op_repX pins s σ H _ _ v u Q I rx ry ⟨p, k, vs, rfl, r2, h1, ?_, c2, c3, by rw [i1.length]; exact c4, fun z ob nz nd => ?_⟩
      · intro z
        subst z
        have := i1.length
        cases a with
        | nil => exact c1 rfl
        | cons => simp at this
      · obtain ⟨h3, e3, r3⟩ := hd.newX nz nd (i1.rep k.toNat)
        exact g ρ _ _ h3 e3 r3
    | _ => exact mul_list hd r1 r2 g I rx ry
  | _ => cases dx <;> exact g.elim

/-! ### comparisons -/
mutual
def pyD : D → Option PyData
  | .non => some .none
  | .bl b => some (.bool b)
  | .int i => some (.int i)
  | .str x => some (.str x)
  | .tup ds => (pyDL ds).map .tuple
  | .lst ds => (pyDL ds).map .list
  | .adr _ => none
  | .ref _ => none
  | .scr _ => none
  | .edc => none
  | .fn _ => none
  | .wtu _ => none
  | .lsx _ => none
def pyDL : List D → Option (List PyData)
  | [] => some []
  | d :: ds => (pyD d).bind fun p => (pyDL ds).map (p :: ·)
end
def pyS (S : Sto) (d : D) : Option PyData := match d with
  | .ref l => (lstOf S (.ref l)).bind fun ds => (pyDL ds).map .list
  | d => pyD d
mutual
theorem pyD_dp {K : PySem.W.Frag} {ρ : List Addr} {H : Hp} : ∀ {d : D} {v : V} {p : PyData}, pyD d = some p → Is K ρ H d v → Dp K H v p
  | .non, _, _, h, r => by rw [Is] at r; subst r; rw [pyD] at h; cases h; exact .non
  | .bl b, _, _, h, r => by rw [Is] at r; subst r; rw [pyD] at h; cases h; exact .bl b
  | .int b, _, _, h, r => by rw [Is] at r; subst r; rw [pyD] at h; cases h; exact .int b
  | .str b, _, _, h, r => by rw [Is] at r; subst r; rw [pyD] at h; cases h; exact .str b
  | .tup ds, _, _, h, r => by
    obtain ⟨a, vs, rfl, h1, h2⟩ := r.seqT
    rw [pyD] at h
    obtain ⟨ps, h3, rfl⟩ := Option.map_eq_some_iff.mp h
    exact .tup h1 (pyDL_dp h3 h2)
  | .lst ds, _, _, h, r => by
    rw [Is] at r
    obtain ⟨a, vs, rfl, _, h1, h2⟩ := r
    rw [pyD] at h
    obtain ⟨ps, h3, rfl⟩ := Option.map_eq_some_iff.mp h
    exact .lst (SqL.of h1) (pyDL_dp h3 h2)
  | .adr _, _, _, h, _ => by rw [pyD] at h; cases h
  | .ref _, _, _, h, _ => by rw [pyD] at h; cases h
  | .scr _, _, _, h, _ => by rw [pyD] at h; cases h
  | .edc, _, _, h, _ => by rw [pyD] at h; cases h
  | .wtu _, _, _, h, _ => by rw [pyD] at h; cases h
  | .lsx _, _, _, h, _ => by rw [pyD] at h; cases h
  | .fn _, _, _, h, _ => by rw [pyD] at h; cases h
theorem pyDL_dp {K : PySem.W.Frag} {ρ : List Addr} {H : Hp} : ∀ {ds : List D} {vs : List V} {ps : List PyData}, pyDL ds = some ps → IsL K ρ H ds vs → DpAll K H vs ps
  | [], _, _, h, r => by rw [IsL] at r; subst r; rw [pyDL] at h; cases h; exact .nil
  | d :: ds, _, _, h, r => by
    rw [IsL] at r
    obtain ⟨v, t, rfl, h1, h2⟩ := r
    rw [pyDL] at h
    obtain ⟨p, h3, h4⟩ := Option.bind_eq_some_iff.mp h
    obtain ⟨ps, h5, rfl⟩ := Option.map_eq_some_iff.mp h4
    exact .cons (pyD_dp h3 h1) (pyDL_dp h5 h2)
end
theorem pyS_dp {K : PySem.W.Frag} {ρ : List Addr} {H : Hp} {S : Sto} {d : D} {v : V} {p : PyData} (hd : Held K ρ H S) (h : pyS S d = some p) (r : Is K ρ H d v) : Dp K H v p := by
  cases d with
  | ref l =>
    obtain ⟨ds, h1, h2⟩ := Option.bind_eq_some_iff.mp h
    obtain ⟨ps, h3, rfl⟩ := Option.map_eq_some_iff.mp h2
    obtain ⟨a, vs, rfl, h4, h5⟩ := hd.lstOf r h1
    exact .lst (SqL.of h4) (pyDL_dp h3 h5)
  | _ => exact pyD_dp h r
def eqD0 (S : Sto) (x y : D) : Option Bool := (pyS S x).bind fun p => (pyS S y).bind fun q => if SeqAt.shaped p && SeqAt.shaped q then some (PyData.eqv p q) else none
def eqD (S : Sto) (x y : D) : Option Bool := match x, y with
  | .str a, .str b => some (decide (a = b))
  | x, y => eqD0 S x y
theorem eqD_cases {S : Sto} {x y : D} {b : Bool} (h : eqD S x y = some b) : (∃ a c, x = .str a ∧ y = .str c ∧ b = decide (a = c)) ∨ eqD0 S x y = some b := by
  unfold eqD at h
  split at h
  · cases h; exact .inl ⟨_, _, rfl, rfl, rfl⟩
  · exact .inr h
def fEq : D → D → Sto → Out D := fun x y S => need (eqD S x y) fun b => .ok (.bl b) S
def fNe : D → D → Sto → Out D := fun x y S => need (eqD S x y) fun b => .ok (.bl (!b)) S
theorem eqD_at {K : PySem.W.Frag} {ρ : List Addr} {H : Hp} {S : Sto} {x y : D} {v u : V} {b : Bool} (hd : Held K ρ H S) (h : eqD0 S x y = some b) (r1 : Is K ρ H x v) (r2 : Is K ρ H y u) :
    ∃ p q, Dp K H v p ∧ Dp K H u q ∧ SeqAt.shaped p = true ∧ SeqAt.shaped q = true ∧ PyData.eqv p q = b := by
  obtain ⟨p, h1, h⟩ := Option.bind_eq_some_iff.mp h
  obtain ⟨q, h2, h⟩ := Option.bind_eq_some_iff.mp h
  split at h
  · rename_i c
    rw [Bool.and_eq_true] at c
    cases h
    exact ⟨p, q, pyS_dp hd h1 r1, pyS_dp hd h2 r2, c.1, c.2, rfl⟩
  · cases h
theorem om_eq (hu : X.A.units + 64 < cLine) : OpR X (compareOp .Eq) (rM X.K fEq) := fun pins s σ H x y v u Q I rx ry ⟨W, σ', ρ, S, dx, dy, hd, r1, r2, g⟩ => by
  obtain ⟨b, hb, g⟩ := g.need
  rcases eqD_cases hb with ⟨a, c, rfl, rfl, rfl⟩ | hb
  · rw [Is] at r1
    rw [Is] at r2
    subst r1 r2
    refine L2.op_eq pins s σ H _ _ v u Q I rx ry ⟨rfl, ?_⟩
    rw [show decide (V.str a = V.str c) = decide (a = c) by simp]
    exact g.ret hd (by rw [Is])
  obtain ⟨p, q, d1, d2, s1, s2, rfl⟩ := eqD_at hd hb r1 r2
  exact op_eqD hu pins s σ H x y v u Q I rx ry ⟨p, q, d1, d2, s1, s2, g.ret hd (by rw [Is])⟩
theorem om_ne (hu : X.A.units + 64 < cLine) : OpR X (compareOp .NotEq) (rM X.K fNe) := fun pins s σ H x y v u Q I rx ry ⟨W, σ', ρ, S, dx, dy, hd, r1, r2, g⟩ => by
  obtain ⟨b, hb, g⟩ := g.need
  rcases eqD_cases hb with ⟨a, c, rfl, rfl, rfl⟩ | hb
  · rw [Is] at r1
    rw [Is] at r2
    subst r1 r2
    refine L2.op_ne pins s σ H _ _ v u Q I rx ry ⟨rfl, ?_⟩
    rw [show decide (V.str a = V.str c) = decide (a = c) by simp]
    exact g.ret hd (by rw [Is])
  obtain ⟨p, q, d1, d2, s1, s2, rfl⟩ := eqD_at hd hb r1 r2
  exact op_neD hu pins s σ H x y v u Q I rx ry ⟨p, q, d1, d2, s1, s2, g.ret hd (by rw [Is])⟩
abbrev fLt := fInts (fun _ _ => true) fun i j => .bl (decide (i < j))
abbrev fLe := fInts (fun _ _ => true) fun i j => .bl (decide (i ≤ j))
abbrev fGt := fInts (fun _ _ => true) fun i j => .bl (decide (j < i))
abbrev fGe := fInts (fun _ _ => true) fun i j => .bl (decide (j ≤ i))
theorem om_lt : OpR X (compareOp .Lt) (rM X.K fLt) := fun pins s σ H x y v u Q I rx ry h => by
  obtain ⟨i, j, e1, e2, _, q⟩ := fInts_at h
  exact op_lt pins s σ H x y v u Q I rx ry ⟨i, j, e1, e2, q _ fun ρ => by rw [Is]⟩
theorem om_le : OpR X (compareOp .LtE) (rM X.K fLe) := fun pins s σ H x y v u Q I rx ry h => by
  obtain ⟨i, j, e1, e2, _, q⟩ := fInts_at h
  exact op_le pins s σ H x y v u Q I rx ry ⟨i, j, e1, e2, q _ fun ρ => by rw [Is]⟩
theorem om_gt : OpR X (compareOp .Gt) (rM X.K fGt) := fun pins s σ H x y v u Q I rx ry h => by
  obtain ⟨i, j, e1, e2, _, q⟩ := fInts_at h
  exact op_gt pins s σ H x y v u Q I rx ry ⟨i, j, e1, e2, q _ fun ρ => by rw [Is]⟩
theorem om_ge : OpR X (compareOp .GtE) (rM X.K fGe) := fun pins s σ H x y v u Q I rx ry h => by
  obtain ⟨i, j, e1, e2, _, q⟩ := fInts_at h
  exact op_ge pins s σ H x y v u Q I rx ry ⟨i, j, e1, e2, q _ fun ρ => by rw [Is]⟩
/-- tuples of ints in their order, besides ints -/
def intsD : List D → Option (List Int)
  | [] => some []
  | .int i :: r => (intsD r).map (i :: ·)
  | _ :: _ => none
theorem intsD_eq : ∀ {ds : List D} {ns : List Int}, intsD ds = some ns → ds = ns.map D.int
  | [], _, h => by cases h; rfl
  | d :: ds, _, h => by
    cases d with
    | int i =>
      obtain ⟨ns, h1, rfl⟩ := Option.map_eq_some_iff.mp h
      rw [intsD_eq h1]; rfl
    | _ => cases h
theorem ints_vals {K : PySem.W.Frag} {ρ : List Addr} {H : Hp} : ∀ {ns : List Int} {vs : List V}, IsL K ρ H (ns.map D.int) vs → vs = ns.map V.int
  | [], _, h => by rw [List.map_nil, IsL] at h; exact h
  | n :: ns, _, h => by
    rw [List.map_cons, IsL] at h
    obtain ⟨v, r, rfl, h1, h2⟩ := h
    rw [Is] at h1
    rw [h1, ints_vals h2]; rfl
def fLtT : D → D → Sto → Out D
  | .int i, .int j, S => .ok (.bl (decide (i < j))) S
  | .tup a, .tup b, S => need (intsD a) fun ns => need (intsD b) fun ms => .ok (.bl (HT.lexLt ns ms)) S
  | _, _, _ => .no
theorem om_ltT (hu : X.A.units < cLine) : OpR X (compareOp .Lt) (rM X.K fLtT) := fun pins s σ H x y v u Q I rx ry ⟨W, σ', ρ, S, dx, dy, hd, r1, r2, g⟩ => by
  cases dx with
  | int i =>
    cases dy with
    | int j =>
      rw [Is] at r1 r2
      exact op_lt pins s σ H x y v u Q I rx ry ⟨i, j, r1, r2, g.ret hd (by rw [Is])⟩
    | _ => exact g.elim
  | tup a =>
    cases dy with
    | tup b =>
      obtain ⟨ns, h1, g1⟩ := g.need
      obtain ⟨ms, h2, g2⟩ := g1.need
      obtain rfl := intsD_eq h1
      obtain rfl := intsD_eq h2
      obtain ⟨p, vs, rfl, h3, i3⟩ := r1.seqT
      obtain ⟨q, us, rfl, h4, i4⟩ := r2.seqT
      obtain rfl := ints_vals i3
      obtain rfl := ints_vals i4
      exact op_ltT hu pins s σ H _ _ v u Q I rx ry ⟨p, q, ns, ms, rfl, rfl, h3, h4, g2.ret hd (by rw [Is])⟩
    | _ => exact g.elim
  | _ => exact g.elim

/-! ### in -/
/-- a dict's entry -/
def lkD (kvs : List (D × D)) (k : D) : Option D := (kvs.find? fun kv => decide (kv.1 = k)).map (·.2)
theorem keyD_inj {a b : D} {k : Key} (h : keyD a = some k) (h' : keyD b = some k) : a = b := by
  cases a <;> first | (cases h; done) | skip
  all_goals (cases b <;> first | (cases h'; done) | skip)
  all_goals (cases h; first | (cases h'; done) | (cases h'; rfl))
theorem keyD_V {K : PySem.W.Frag} {ρ : List Addr} {H : Hp} {d : D} {k : Key} {v : V} (h : keyD d = some k) (r : Is K ρ H d v) : v = kV k := by
  cases d with
  | int i => rw [Is] at r; cases h; exact r
  | str i => rw [Is] at r; cases h; exact r
  | _ => cases h
theorem lkD_val {K : PySem.W.Frag} {ρ : List Addr} {H : Hp} {k : D} {q : Key} (hk : keyD k = some q) : ∀ {kvs : List (D × D)} {ks : List (Key × V)}, IsKV K ρ H kvs ks →
    (∀ d, lkD kvs k = some d → ∃ v, valV ks q = some v ∧ Is K ρ H d v) ∧ (lkD kvs k = none → valV ks q = none)
  | [], _, h => by cases h; exact ⟨fun d e => (by cases e), fun _ => rfl⟩
  | (k', d') :: r, _, h => by
    obtain ⟨q', v, t, rfl, h1, h2, h3⟩ := h
    by_cases e : k' = k
    · subst e
      rw [hk] at h1; cases h1
      unfold lkD
      rw [List.find?_cons]
      simp only [decide_true, Option.map_some]
      refine ⟨fun d e => ?_, fun e => by cases e⟩
      cases e
      exact ⟨v, valV_pos rfl, h2⟩
    · have ne : ¬ q' = q := fun z => e (by subst z; exact keyD_inj h1 hk)
      unfold lkD
      rw [List.find?_cons]
      simp only [decide_eq_false e, valV_neg (p := (q', v)) ne]
      exact lkD_val hk h3
/-- whether it is in -/
def inSeqD (S : Sto) (x : D) (ds : List D) : Option Bool := (pyDL ds).bind fun ps => (pyS S x).bind fun p => if SeqAt.shaped (.list ps) && SeqAt.shaped p then some (ps.any fun z => PyData.eqv z p) else none
def inD2 (S : Sto) (x y : D) : Option Bool := match y with
  | .ref l => match S[l]? with
    | some (.dct kvs) => (keyD x).bind fun _ => some (lkD kvs x).isSome
    | some (.lst ds) => inSeqD S x ds
    | _ => none
  | y => (seqOf S y).bind fun ds => inSeqD S x ds
theorem inD2_seq {S : Sto} {x y : D} (h : ∀ l, y ≠ .ref l) : inD2 S x y = (seqOf S y).bind fun ds => inSeqD S x ds := by
  cases y <;> first | rfl | exact absurd rfl (h _)
def inD (S : Sto) (x y : D) : Option Bool := match x, y with
  | .str a, .str b => some (!(Builtin.Str.occurrences b a 0 b.length 1).isEmpty)
  | x, y => inD2 S x y
def fIn : D → D → Sto → Out D := fun x y S => need (inD S x y) fun b => .ok (.bl b) S
def fNotIn : D → D → Sto → Out D := fun x y S => need (inD S x y) fun b => .ok (.bl (!b)) S
theorem in_seq {x y : D} {ds : List D} {b : Bool} {ρ : List Addr} {H : Hp} {S : Sto} {pins : List (Addr × Obj)} {σ : St} {s : Shared} {vx vy : V} {v u : Value} (hu : X.A.units + 65 < cLine) (hd : Held X.K ρ H S) (r1 : Is X.K ρ H x vx) (r2 : Is X.K ρ H y vy)
    (hs : seqOf S y = some ds) (hb : inSeqD S x ds = some b)
    (I : Inv X pins σ H s) (rx : RelV vx v) (ry : RelV vy u) {Q Q' : Value → Shared → Prop} (q : Q (.bool b) s) (q' : Q' (.bool !b) s) :
    wpAny (model X.prog X.w) X.A (compareOp .In v u) Q X.xe s ∧ wpAny (model X.prog X.w) X.A (compareOp .NotIn v u) Q' X.xe s := by
  obtain ⟨ps, h1, hb⟩ := Option.bind_eq_some_iff.mp hb
  obtain ⟨p, h2, hb⟩ := Option.bind_eq_some_iff.mp hb
  split at hb
  · rename_i c
    rw [Bool.and_eq_true] at c
    cases hb
    obtain ⟨a, vs, rfl, h3, i3⟩ := hd.seqOf r2 hs
    have dx := pyS_dp hd h2 r1
    have dy := pyDL_dp h1 i3
    obtain ⟨as, e1⟩ := Dp.reads I p vx v dx rx
    rcases h3 with h3 | h3
    · obtain ⟨bs, e2⟩ := Dp.reads I (.list ps) (.ref a) u (.lst h3 dy) ry
      exact ⟨SeqAt.in_list_reads e2 e1 (SeqAt.canLay_of_shaped c.1) (SeqAt.canLay_of_shaped c.2) (PyProof.Rows.room_in_shaped c.2 hu) q, SeqAt.notIn_list_reads e2 e1 (SeqAt.canLay_of_shaped c.1) (SeqAt.canLay_of_shaped c.2) (PyProof.Rows.room_in_shaped c.2 hu) q'⟩
    · obtain ⟨bs, e2⟩ := Dp.reads I (.tuple ps) (.ref a) u (.tup h3 dy) ry
      exact ⟨SeqAt.in_tuple_reads e2 e1 (SeqAt.canLay_of_shaped c.1) (SeqAt.canLay_of_shaped c.2) (PyProof.Rows.room_in_shaped c.2 hu) q, SeqAt.notIn_tuple_reads e2 e1 (SeqAt.canLay_of_shaped c.1) (SeqAt.canLay_of_shaped c.2) (PyProof.Rows.room_in_shaped c.2 hu) q'⟩
  · cases hb
theorem in_any {x y : D} {b : Bool} {ρ : List Addr} {H : Hp} {S : Sto} {pins : List (Addr × Obj)} {σ : St} {s : Shared} {vx vy : V} {v u : Value} (hu : X.A.units + 65 < cLine) (hd : Held X.K ρ H S) (r1 : Is X.K ρ H x vx) (r2 : Is X.K ρ H y vy)
    (hb : inD S x y = some b) (I : Inv X pins σ H s) (rx : RelV vx v) (ry : RelV vy u) {Q Q' : VK} (q : Q (.bl b) H) (q' : Q' (.bl !b) H) :
    wpAny (model X.prog X.w) X.A (compareOp .In v u) (EP X pins σ Q) X.xe s ∧ wpAny (model X.prog X.w) X.A (compareOp .NotIn v u) (EP X pins σ Q') X.xe s := by
  have fin : ∀ {ds : List D}, seqOf S y = some ds → inSeqD S x ds = some b →
      wpAny (model X.prog X.w) X.A (compareOp .In v u) (EP X pins σ Q) X.xe s ∧ wpAny (model X.prog X.w) X.A (compareOp .NotIn v u) (EP X pins σ Q') X.xe s := fun hs hb =>
    in_seq hu hd r1 r2 hs hb I rx ry ⟨.bl b, H, I, rfl, q⟩ ⟨.bl !b, H, I, rfl, q'⟩
  have other : inD2 S x y = some b → wpAny (model X.prog X.w) X.A (compareOp .In v u) (EP X pins σ Q) X.xe s ∧ wpAny (model X.prog X.w) X.A (compareOp .NotIn v u) (EP X pins σ Q') X.xe s := fun hb => by
    cases y with
    | ref l =>
      unfold inD2 at hb
      simp only at hb
      split at hb
      · rename_i kvs hc
        obtain ⟨k, hk, hb⟩ := Option.bind_eq_some_iff.mp hb
        cases hb
        obtain ⟨a, rfl, ha, ks, h1, h2⟩ := hd.at_ r2 hc
        obtain rfl := keyD_V hk r1
        cases (show u = Value.ref a from ry)
        have hv := lkD_val hk h2
        have e : (valV ks k).isSome = (lkD kvs x).isSome := by
          cases q2 : lkD kvs x with
          | none => rw [hv.2 q2]; rfl
          | some d =>
            obtain ⟨w, hw, _⟩ := hv.1 d q2
            rw [hw]; rfl
        exact ⟨d_in (by omega) I (DGet.k h1) rx fun s' I' => ⟨.bl (valV ks k).isSome, H, I', rfl, by rw [e]; exact q⟩, d_notIn (by omega) I (DGet.k h1) rx fun s' I' => ⟨.bl (!(valV ks k).isSome), H, I', rfl, by rw [e]; exact q'⟩⟩
      · rename_i ds hc
        exact fin (show seqOf S (.ref l) = some ds by unfold seqOf lstOf; simp [hc]) hb
      · cases hb
    | _ =>
      rw [inD2_seq (fun l e => by cases e)] at hb
      obtain ⟨ds, h1, hb⟩ := Option.bind_eq_some_iff.mp hb
      exact fin h1 hb
  cases x with
  | str i =>
    cases y with
    | str j =>
      cases hb
      rw [Is] at r1 r2
      exact ⟨op_in_str pins s σ H vx vy v u Q I rx ry ⟨i, j, r1, r2, q⟩, op_notin_str pins s σ H vx vy v u Q' I rx ry ⟨i, j, r1, r2, q'⟩⟩
    | _ => exact other hb
  | _ => exact other hb
theorem om_in (hu : X.A.units + 65 < cLine) : OpR X (compareOp .In) (rM X.K fIn) := fun pins s σ H x y v u Q I rx ry ⟨W, σ', ρ, S, dx, dy, hd, r1, r2, g⟩ => by
  obtain ⟨b, hb, g⟩ := g.need
  exact (in_any (Q' := fun _ _ => True) hu hd r1 r2 hb I rx ry (g.ret hd (by rw [Is])) trivial).1
theorem om_notIn (hu : X.A.units + 65 < cLine) : OpR X (compareOp .NotIn) (rM X.K fNotIn) := fun pins s σ H x y v u Q I rx ry ⟨W, σ', ρ, S, dx, dy, hd, r1, r2, g⟩ => by
  obtain ⟨b, hb, g⟩ := g.need
  exact (in_any (Q := fun _ _ => True) hu hd r1 r2 hb I rx ry trivial (g.ret hd (by rw [Is]))).2
/-- is None, is True, is False -/
def isD : D → D → Option Bool
  | x, .non => some (decide (x = .non))
  | .bl a, .bl b => some (decide (a = b))
  | _, _ => none
def fIs : D → D → Sto → Out D := fun x y S => need (isD x y) fun b => .ok (.bl b) S
def fIsNot : D → D → Sto → Out D := fun x y S => need (isD x y) fun b => .ok (.bl (!b)) S
theorem is_non {K : PySem.W.Frag} {ρ : List Addr} {H : Hp} {d : D} {v : V} (r : Is K ρ H d v) : decide (v = .non) = decide (d = .non) := by
  cases d with
  | non => rw [Is] at r; subst r; rfl
  | bl _ => rw [Is] at r; subst r; rfl
  | int _ => rw [Is] at r; subst r; rfl
  | str _ => rw [Is] at r; subst r; rfl
  | adr _ => rw [Is] at r; subst r; rfl
  | tup _ => obtain ⟨a, _, rfl, _⟩ := r.seqT; rfl
  | lst _ => rw [Is] at r; obtain ⟨a, _, rfl, _⟩ := r; rfl
  | ref _ => rw [Is] at r; obtain ⟨a, _, rfl⟩ := r; rfl
  | scr _ => rw [Is] at r; obtain ⟨a, rfl, _⟩ := r; rfl
  | edc => rw [Is] at r; obtain ⟨a, rfl, _⟩ := r; rfl
  | wtu _ => obtain ⟨a, _, rfl, _⟩ := r.seqW; rfl
  | lsx _ => rw [Is] at r; obtain ⟨a, _, rfl, _⟩ := r; rfl
  | fn _ => rw [Is] at r; obtain ⟨a, rfl, _⟩ := r; rfl
theorem om_is : OpR X (compareOp .Is) (rM X.K fIs) := fun pins s σ H x y v u Q I rx ry ⟨W, σ', ρ, S, dx, dy, hd, r1, r2, g⟩ => by
  obtain ⟨b, hb, g⟩ := g.need
  cases dy with
  | non =>
    have hb : some (decide (dx = .non)) = some b := by
      rw [← hb]; cases dx <;> rfl
    cases hb
    rw [Is] at r2
    exact op_isN pins s σ H x y v u Q I rx ry ⟨r2, g.ret hd (by rw [Is, is_non r1])⟩
  | bl k =>
    cases dx with
    | bl j =>
      cases hb
      rw [Is] at r1 r2
      exact op_is_bl pins s σ H x y v u Q I rx ry ⟨j, k, r1, r2, g.ret hd (by rw [Is])⟩
    | _ => cases hb
  | _ => cases dx <;> cases hb
theorem om_isNot : OpR X (compareOp .IsNot) (rM X.K fIsNot) := fun pins s σ H x y v u Q I rx ry ⟨W, σ', ρ, S, dx, dy, hd, r1, r2, g⟩ => by
  obtain ⟨b, hb, g⟩ := g.need
  cases dy with
  | non =>
    have hb : some (decide (dx = .non)) = some b := by
      rw [← hb]; cases dx <;> rfl
    cases hb
    rw [Is] at r2
    exact op_notN pins s σ H x y v u Q I rx ry ⟨r2, g.ret hd (by rw [Is, is_non r1])⟩
  | bl k =>
    cases dx with
    | bl j =>
      cases hb
      rw [Is] at r1 r2
      exact op_isnot_bl pins s σ H x y v u Q I rx ry ⟨j, k, r1, r2, g.ret hd (by rw [Is])⟩
    | _ => cases hb
  | _ => cases dx <;> cases hb
end

/-! ### a < b < c .. -/
section
variable {X : Cx} {W : WX} {a b c : Expr} {es : List Expr} {ma mb mc : ED} {pos : Pos} {op op' : CmpOp} {ops : List CmpOp} {r r' : R2} {f f' : D → D → Sto → Out D} {mk : D → ED}
/-- the links behind a value, as a value and as a test -/
structure PCh (X : Cx) (W : WX) (pos : Pos) (ops : List CmpOp) (es : List Expr) (mk : D → ED) : Prop where
  val : ∀ (pins : List (Addr × Obj)) (s : Shared) (σ : St) (H : Hp) (Q : VK) (v : Value) (x : V) (d : D) (ρ : List Addr) (loc : Loc) (S : Sto), Inv X pins σ H s → RelV x v → RelL X.K ρ σ H loc → Held X.K ρ H S → Is X.K ρ H d x → Good X.K W σ (Is X.K) Q ρ H (mk d loc S) →
    wpAny (model X.prog X.w) X.A (compareChain pos v ops (evalEach es X.env)) (EP X pins σ Q) X.xe s
  tst : ∀ (pins : List (Addr × Obj)) (s : Shared) (σ : St) (H : Hp) (Q : Bool → Hp → Prop) (v : Value) (x : V) (d : D) (ρ : List Addr) (loc : Loc) (S : Sto), Inv X pins σ H s → RelV x v → RelL X.K ρ σ H loc → Held X.K ρ H S → Is X.K ρ H d x →
    Good X.K W σ (EqB X.K) Q ρ H (mB (mk d) loc S) → wpAny (model X.prog X.w) X.A (testChain pos v ops (evalEach es X.env)) (TP X pins σ Q) X.xe s
def chLast (f : D → D → Sto → Out D) (mb : ED) : D → ED := fun x loc S => (mb loc S).bind fun y S1 => f x y S1
def chLink (f : D → D → Sto → Out D) (mb : ED) (mk : D → ED) : D → ED := fun x loc S => (mb loc S).bind fun y S1 => (f x y S1).bind fun z S2 => match z with
  | .bl true => mk y loc S2
  | .bl false => .ok (.bl false) S2
  | _ => .no
theorem Out.bind_bind {α β γ : Type} (o : Out α) (k : α → Sto → Out β) (l : β → Sto → Out γ) : (o.bind k).bind l = o.bind fun a S => (k a S).bind l := by cases o <;> rfl
theorem ch_last (ho : OpR X (compareOp op) (rM X.K f)) (hb : PE X b (tE X.K W mb)) : PCh X W pos [op] [b] (chLast f mb) where
  val := fun pins s σ H Q v x d ρ loc S I rx rl hd rd g => by
    refine PyProof.Rows.chain_last (thn (hb.run pins s σ H _ I ⟨ρ, loc, S, rl, hd, Good.bind g fun dy S1 ρ1 H1 y hd1 e1 r1 g1 => ?_⟩) fun u s1 ⟨y, H1, I1, ry, q1⟩ => ho pins s1 σ H1 x y v u Q I1 rx ry q1)
    exact ⟨W, σ, ρ1, S1, d, dy, hd1, rd.ext e1, r1, g1⟩
  tst := fun pins s σ H Q v x d ρ loc S I rx rl hd rd g => by
    unfold mB chLast at g
    rw [Out.bind_bind] at g
    refine PyProof.Rows.test_last (thn (hb.run pins s σ H (fun y H1 => rM X.K f x y H1 fun z H2 => ∃ k, z = .bl k ∧ Q k H2) I ⟨ρ, loc, S, rl, hd, Good.bind g fun dy S1 ρ1 H1 y hd1 e1 r1 g1 => ?_⟩) fun u s1 ⟨y, H1, I1, ry, q1⟩ => thn (ho pins s1 σ H1 x y v u _ I1 rx ry q1) fun w s2 ⟨z, H2, I2, rz, k, ez, q2⟩ => ?_)
    · refine ⟨W, σ, ρ1, S1, d, dy, hd1, rd.ext e1, r1, Good.bind g1 fun dz S2 ρ2 H2 z hd2 e2 r2 g2 => ?_⟩
      cases dz with
      | bl k => rw [Is] at r2; exact ⟨k, r2, g2.ret hd2 rfl⟩
      | _ => exact g2.elim
    · subst ez
      cases rz
      exact wpAny_truthy_bool ⟨H2, I2, q2⟩
theorem ch_link (ho : OpR X (compareOp op) (rM X.K f)) (hb : PE X b (tE X.K W mb)) (hn : PCh X W pos (op' :: ops) (c :: es) mk) : PCh X W pos (op :: op' :: ops) (b :: c :: es) (chLink f mb mk) where
  val := fun pins s σ H Q v x d ρ loc S I rx rl hd rd g => by
    refine PyProof.Rows.chain_link (thn (hb.run pins s σ H (fun y H1 => ∃ ρ1 S1 dy, Held X.K ρ1 H1 S1 ∧ Ext ρ H ρ1 H1 ∧ Is X.K ρ1 H1 dy y ∧ Good X.K W σ (Is X.K) Q ρ1 H1 ((f d dy S1).bind fun z S2 => match z with
      | .bl true => mk dy loc S2
      | .bl false => .ok (.bl false) S2
      | _ => .no)) I ⟨ρ, loc, S, rl, hd, Good.bind g fun dy S1 ρ1 H1 y hd1 e1 r1 g1 => ⟨ρ1, S1, dy, hd1, e1, r1, g1⟩⟩) fun u s1 ⟨y, H1, I1, ry, ρ1, S1, dy, hd1, e1, r1, g1⟩ => ?_)
    refine thn (ho pins s1 σ H1 x y v u (fun z H2 => ∃ k ρ2 S2, z = .bl k ∧ Held X.K ρ2 H2 S2 ∧ Ext ρ1 H1 ρ2 H2 ∧ Good X.K W σ (Is X.K) Q ρ2 H2 (match k with
      | true => mk dy loc S2
      | false => .ok (.bl false) S2)) I1 rx ry ⟨W, σ, ρ1, S1, d, dy, hd1, rd.ext e1, r1, Good.bind g1 fun dz S2 ρ2 H2 z hd2 e2 r2 g2 => ?_⟩) fun w s2 ⟨z, H2, I2, rz, k, ρ2, S2, ez, hd2, e2, g2⟩ => ?_
    · cases dz with
      | bl k =>
        rw [Is] at r2
        refine ⟨k, ρ2, S2, r2, hd2, e2, ?_⟩
        cases k <;> exact g2
      | _ => exact g2.elim
    · subst ez
      cases rz
      refine wpAny_truthy_bool ?_
      cases k with
      | true =>
        rw [if_pos rfl]
        exact hn.val pins s2 σ H2 Q u y dy ρ2 loc S2 I2 ry ((rl.ext e1).ext e2) hd2 (r1.ext e2) g2
      | false =>
        rw [if_neg Bool.false_ne_true]
        exact ⟨.bl false, H2, I2, rfl, g2.ret hd2 (by rw [Is])⟩
  tst := fun pins s σ H Q v x d ρ loc S I rx rl hd rd g => by
    unfold mB chLink at g
    rw [Out.bind_bind] at g
    refine PyProof.Rows.test_link (thn (hb.run pins s σ H (fun y H1 => ∃ ρ1 S1 dy, Held X.K ρ1 H1 S1 ∧ Ext ρ H ρ1 H1 ∧ Is X.K ρ1 H1 dy y ∧ Good X.K W σ (EqB X.K) Q ρ1 H1 (((f d dy S1).bind fun z S2 => match z with
      | .bl true => mk dy loc S2
      | .bl false => .ok (.bl false) S2
      | _ => .no).bind fun d S1 => match d with
        | .bl b => .ok b S1
        | _ => .no)) I ⟨ρ, loc, S, rl, hd, Good.bind g fun dy S1 ρ1 H1 y hd1 e1 r1 g1 => ⟨ρ1, S1, dy, hd1, e1, r1, g1⟩⟩) fun u s1 ⟨y, H1, I1, ry, ρ1, S1, dy, hd1, e1, r1, g1⟩ => ?_)
    rw [Out.bind_bind] at g1
    refine thn (ho pins s1 σ H1 x y v u (fun z H2 => ∃ k ρ2 S2, z = .bl k ∧ Held X.K ρ2 H2 S2 ∧ Ext ρ1 H1 ρ2 H2 ∧ Good X.K W σ (EqB X.K) Q ρ2 H2 (match k with
      | true => mB (mk dy) loc S2
      | false => .ok false S2)) I1 rx ry ⟨W, σ, ρ1, S1, d, dy, hd1, rd.ext e1, r1, Good.bind g1 fun dz S2 ρ2 H2 z hd2 e2 r2 g2 => ?_⟩) fun w s2 ⟨z, H2, I2, rz, k, ρ2, S2, ez, hd2, e2, g2⟩ => ?_
    · cases dz with
      | bl k =>
        rw [Is] at r2
        refine ⟨k, ρ2, S2, r2, hd2, e2, ?_⟩
        cases k <;> exact g2
      | _ => exact g2.elim
    · subst ez
      cases rz
      refine wpAny_truthy_bool ?_
      cases k with
      | true =>
        rw [if_pos rfl]
        exact hn.tst pins s2 σ H2 Q u y dy ρ2 loc S2 I2 ry ((rl.ext e1).ext e2) hd2 (r1.ext e2) g2
      | false =>
        rw [if_neg Bool.false_ne_true]
        exact ⟨H2, I2, g2.ret hd2 rfl⟩
def mChain (ma : ED) (mk : D → ED) : ED := fun loc S => (ma loc S).bind fun x S1 => mk x loc S1
theorem pm_chain (ha : PE X a (tE X.K W ma)) (hn : PCh X W pos (op :: op' :: ops) (b :: c :: es) mk) (hm : lastMarks (op :: op' :: ops) (b :: c :: es) = false := by with_unfolding_all rfl) :
    PE X (.Compare a (op :: op' :: ops) (b :: c :: es) pos) (tE X.K W (mChain ma mk)) := by
  refine ⟨fun pins s σ H Q I ⟨ρ, loc, S, rl, hd, g⟩ => ?_⟩
  refine PyProof.Rows.Compare_chain (thn (ha.run pins s σ H (fun x H1 => ∃ ρ1 S1 d, Held X.K ρ1 H1 S1 ∧ Ext ρ H ρ1 H1 ∧ Is X.K ρ1 H1 d x ∧ Good X.K W σ (Is X.K) Q ρ1 H1 (mk d loc S1)) I
    ⟨ρ, loc, S, rl, hd, Good.bind g fun d S1 ρ1 H1 x hd1 e1 r1 g1 => ⟨ρ1, S1, d, hd1, e1, r1, g1⟩⟩) fun v s1 ⟨x, H1, I1, rx, ρ1, S1, d, hd1, e1, r1, g1⟩ => ?_) hm
  exact hn.val pins s1 σ H1 Q v x d ρ1 loc S1 I1 rx (rl.ext e1) hd1 r1 g1
theorem pm_chainT (ha : PE X a (tE X.K W ma)) (hn : PCh X W pos (op :: op' :: ops) (b :: c :: es) mk) (hm : lastMarks (op :: op' :: ops) (b :: c :: es) = false := by with_unfolding_all rfl) :
    PT X (.Compare a (op :: op' :: ops) (b :: c :: es) pos) (tT X.K W (mB (mChain ma mk))) := by
  refine ⟨fun pins s σ H Q I ⟨ρ, loc, S, rl, hd, g⟩ => ?_⟩
  unfold mB mChain at g
  rw [Out.bind_bind] at g
  refine PyProof.Rows.isTrue_chain (thn (ha.run pins s σ H (fun x H1 => ∃ ρ1 S1 d, Held X.K ρ1 H1 S1 ∧ Ext ρ H ρ1 H1 ∧ Is X.K ρ1 H1 d x ∧ Good X.K W σ (EqB X.K) Q ρ1 H1 (mB (mk d) loc S1)) I
    ⟨ρ, loc, S, rl, hd, Good.bind g fun d S1 ρ1 H1 x hd1 e1 r1 g1 => ⟨ρ1, S1, d, hd1, e1, r1, g1⟩⟩) fun v s1 ⟨x, H1, I1, rx, ρ1, S1, d, hd1, e1, r1, g1⟩ => ?_) hm
  exact hn.tst pins s1 σ H1 Q v x d ρ1 loc S1 I1 rx (rl.ext e1) hd1 r1 g1
end
end Md

set_option Elab.async false
set_option linter.all false
set_option maxRecDepth 100000
/-! Md3: subscripts, slices, calls of built-ins. -/
namespace Md
open PySem L2
open PyProof.Rows (subscriptTail)

section
variable {X : Cx} {W : WX} {a b c e : Expr} {es : List Expr} {ma mb mc : ED} {ml : AD} {pos p2 : Pos}
/-! ### x[i] -/
def signAt (z : Str) (i : Int) : Option Str := if z.length ≤ sizeLine then (atI z.cps.toList i).map fun c => ⟨#[c]⟩ else none
def ixD (S : Sto) (x y : D) : Option D := match x, y with
  | .str z, .int i => (signAt z i).map .str
  | .ref l, y => match S[l]? with
    | some (.dct kvs) => (keyD y).bind fun _ => lkD kvs y
    | some (.lst ds) => match y with
      | .int i => atI ds i
      | _ => none
    | _ => none
  | x, .int i => (seqOf S x).bind fun ds => atI ds i
  | _, _ => none
def fIx : D → D → Sto → Out D := fun x y S => need (ixD S x y) fun d => .ok d S
theorem IsL.atI {K : PySem.W.Frag} {ρ : List Addr} {H : Hp} {ds : List D} {vs : List V} {i : Int} {d : D} (h : IsL K ρ H ds vs) (e : atI ds i = some d) : ∃ v, L2.atI vs i = some v ∧ Is K ρ H d v := by
  unfold L2.atI at e ⊢
  rw [h.length]
  cases q : ixN ds.length i with
  | none => rw [q] at e; cases e
  | some j =>
    rw [q] at e
    exact h.get e
theorem ix_seq_at {x : D} {ds : List D} {i : Int} {d : D} {ρ : List Addr} {H : Hp} {S : Sto} {pins : List (Addr × Obj)} {σ : St} {s : Shared} {vx vy : V} {v u : Value} {Q : VK} {ve se : Expr} (hd : Held X.K ρ H S) (r1 : Is X.K ρ H x vx) (r2 : vy = .int i)
    (h1 : seqOf S x = some ds) (h2 : atI ds i = some d) (I : Inv X pins σ H s) (rx : RelV vx v) (ry : RelV vy u) (q : ∀ w, Is X.K ρ H d w → Q w H) (hs : subscripted se false v u = operate [v, u] (getItem v u)) :
    wpAny (model X.prog X.w) X.A (subscriptTail ve se v u) (EP X pins σ Q) X.xe s := by
  obtain ⟨a, vs, rfl, h3, i3⟩ := hd.seqOf r1 h1
  obtain ⟨w, h4, i4⟩ := i3.atI h2
  rcases h3 with h3 | h3
  · exact ix_list ve se pins s σ H _ _ v u Q I rx ry ⟨a, vs, i, w, rfl, r2, h3, h4, q w i4⟩ hs
  · exact ix_tup ve se pins s σ H _ _ v u Q I rx ry ⟨a, vs, i, w, rfl, r2, h3, h4, q w i4⟩ hs
theorem im_ix (hu : X.A.units + 1 < cLine) : IxR X (rM X.K fIx) := fun ve se pins s σ H x y v u Q I rx ry ⟨W, σ', ρ, S, dx, dy, hd, r1, r2, g0⟩ hs => by
  obtain ⟨d, he, g⟩ := g0.need
  clear g0
  have fin : ∀ {ds : List D} {i : Int}, dy = .int i → seqOf S dx = some ds → atI ds i = some d → wpAny (model X.prog X.w) X.A (subscriptTail ve se v u) (EP X pins σ Q) X.xe s := fun {ds i} e1 h1 h2 => by
    subst e1
    rw [Is] at r2
    exact ix_seq_at hd r1 r2 h1 h2 I rx ry (fun w hw => g.ret hd hw) hs
  cases dx with
  | str z =>
    cases dy with
    | int i =>
      obtain ⟨t, h1, rfl⟩ := Option.map_eq_some_iff.mp (show (signAt z i).map D.str = some d from he)
      unfold signAt at h1
      split at h1
      · rename_i hz
        obtain ⟨c, h2, rfl⟩ := Option.map_eq_some_iff.mp h1
        rw [Is] at r1
        rw [Is] at r2
        exact ix_str ve se pins s σ H x y v u Q I rx ry ⟨z, i, c, r1, r2, hz, h2, g.ret hd (by rw [Is])⟩ hs
      · cases h1
    | _ => cases he
  | ref l =>
    unfold ixD at he
    simp only at he
    split at he
    · rename_i kvs hc
      obtain ⟨k, hk, he⟩ := Option.bind_eq_some_iff.mp he
      obtain ⟨a, rfl, ha, ks, h1, h2⟩ := hd.at_ r1 hc
      obtain rfl := keyD_V hk r2
      obtain ⟨w, hw, hi⟩ := (lkD_val hk h2).1 d he
      cases (show v = Value.ref a from rx)
      have gg : DGet H a (kV k) (some w) := by rw [← hw]; exact DGet.k h1
      exact PyProof.Rows.tail_any (dict_typeIs I gg) PySem.F.slot_dict_getitem.lookup (d_getItem hu I gg ry fun w' s3 I3 rw' => ⟨w, H, I3, rw', g.ret hd hi⟩) hs
    · rename_i ds hc
      split at he
      · exact fin rfl (show seqOf S (.ref l) = some ds by unfold seqOf lstOf; simp [hc]) he
      · cases he
    · cases he
  | tup xs =>
    cases dy with
    | int i => exact fin rfl rfl he
    | _ => cases he
  | lst xs =>
    cases dy with
    | int i => exact fin rfl rfl he
    | _ => cases he
  | _ => cases dy <;> cases he
theorem pm_ix (hu : X.A.units + 1 < cLine) (ha : PE X a (tE X.K W ma)) (hb : PE X b (tE X.K W mb)) (hs : PlainIx b := by exact fun _ _ => rfl) : PE X (.Subscript a b pos) (tE X.K W (mOp fIx ma mb)) :=
  (pe_ix (im_ix hu) ha hb hs).md fun _ _ _ h => md_op rM_ok h

/-! ### slices -/
abbrev OD := Loc → Sto → Out (Option Int)
abbrev EqO (_ : PySem.W.Frag) (_ : List Addr) (_ : Hp) (a b : Option Int) : Prop := a = b
def mPart (m : Option ED) : OD := fun loc S => match m with
  | none => .ok none S
  | some m => (m loc S).bind fun d S1 => match d with
    | .int i => .ok (some i) S1
    | _ => .no
theorem pmo_none : PO X none (tM EqO X.K W (mPart none)) := by
  refine ⟨fun pins s σ H Q I ⟨ρ, loc, S, rl, hd, g⟩ => ?_⟩
  exact po_none.run pins s σ H Q I (Good.ret g hd rfl)
theorem pmo_some (h : PE X e (tE X.K W ma)) : PO X (some e) (tM EqO X.K W (mPart (some ma))) := by
  refine ⟨fun pins s σ H Q I ⟨ρ, loc, S, rl, hd, g⟩ => ?_⟩
  refine (po_some h).run pins s σ H Q I ⟨ρ, loc, S, rl, hd, Good.bind g fun d S1 ρ1 H1 x hd1 e1 r1 g1 => ?_⟩
  cases d with
  | int i => rw [Is] at r1; exact ⟨i, r1, g1.ret hd1 rfl⟩
  | _ => exact g1.elim
def cutD (ds : List D) (lo hi : Option Int) : List D := (ds.drop (HT.sIx ds.length 0 lo)).take (HT.sIx ds.length ds.length hi - HT.sIx ds.length 0 lo)
theorem IsL.cut {K : PySem.W.Frag} {ρ : List Addr} {H : Hp} {ds : List D} {vs : List V} (h : IsL K ρ H ds vs) (lo hi : Option Int) : IsL K ρ H (cutD ds lo hi) (cutV vs lo hi) := by
  unfold cutD cutV
  rw [h.length]
  exact (h.drop _).take _
theorem IsL.scr {K : PySem.W.Frag} {ρ : List Addr} {H : Hp} (ns : List Int) : IsL K ρ H (ns.map D.int) (ns.map V.int) := IsL.of_ints ns
def slD (S : Sto) (d : D) (lo hi : Option Int) : Option D := match d with
  | .tup ds => some (.tup (cutD ds lo hi))
  | .scr ns => some (.lst (cutD (ns.map D.int) lo hi))
  | .str z => if z.length ≤ sizeLine then some (.str (cutS z lo hi)) else none
  | d => (lstOf S d).map fun ds => .lst (cutD ds lo hi)
def mSl (ma : ED) (ml mh : OD) : ED := fun loc S => (ma loc S).bind fun d S1 => (ml loc S1).bind fun lo S2 => (mh loc S2).bind fun hi S3 => need (slD S3 d lo hi) fun r => .ok r S3
def rSlM (K : PySem.W.Frag) : V → Option Int → Option Int → Hp → VK → Prop := fun x lo hi H Q =>
  ∃ (W : WX) (σ : St) (ρ : List Addr) (S : Sto) (d r : D), Held K ρ H S ∧ Is K ρ H d x ∧ slD S d lo hi = some r ∧ Good K W σ (Is K) Q ρ H (.ok r S)
theorem cut_whole {ds : List D} {lo hi : Option Int} (h : HT.sIx ds.length 0 lo = 0 ∧ HT.sIx ds.length ds.length hi = ds.length) : cutD ds lo hi = ds := by
  unfold cutD
  rw [h.1, h.2]
  simp
theorem sm_any : SlR X (rSlM X.K) := fun pins s σ H x v vl vu lo hi sl Q I rx hs pl pu ⟨W, σ', ρ, S, d, r, hd, r1, hr, g⟩ => by
  have lists : ∀ {ds : List D}, lstOf S d = some ds → r = .lst (cutD ds lo hi) → ∃ T id, typeLookup (.type T) "__getitem__" = pure (some (.builtin id)) ∧ s.TypeIs v T ∧ wpAny (model X.prog X.w) X.A (getItem v (.ref sl)) (EP X pins σ Q) X.xe s := fun {ds} h1 e1 => by
    subst e1
    obtain ⟨a, vs, rfl, h2, i2⟩ := hd.lstOf r1 h1
    refine sl_list pins s σ H _ v vl vu lo hi sl Q I rx hs pl pu ⟨a, vs, rfl, SqL.of h2, fun p np => ?_⟩
    obtain ⟨h3, e3, r3⟩ := hd.newL np (i2.cut lo hi)
    exact g ρ _ _ h3 e3 r3
  cases d with
  | tup ds =>
    cases hr
    obtain ⟨a, vs, rfl, h2, i2⟩ := r1.seqT
    refine sl_tupX pins s σ H _ v vl vu lo hi sl Q I rx hs pl pu ⟨a, vs, rfl, h2, fun hw => ?_, fun hw p ob np nd => ?_⟩
    · rw [i2.length] at hw
      rw [cut_whole hw] at g
      exact g.ret hd r1
    · obtain ⟨h3, e3, r3⟩ := hd.newX np nd (i2.cut lo hi)
      exact g ρ _ _ h3 e3 r3
  | scr ns =>
    cases hr
    rw [Is] at r1
    obtain ⟨a, rfl, h2⟩ := r1
    refine sl_list pins s σ H _ v vl vu lo hi sl Q I rx hs pl pu ⟨a, ns.map V.int, rfl, h2.imp (·.2) id, fun p np => ?_⟩
    obtain ⟨h3, e3, r3⟩ := hd.newL np ((IsL.of_ints ns).cut lo hi)
    exact g ρ _ _ h3 e3 r3
  | str z =>
    have hr : (if z.length ≤ sizeLine then some (D.str (cutS z lo hi)) else none) = some r := hr
    split at hr
    · rename_i hz
      cases hr
      rw [Is] at r1
      exact sl_str pins s σ H x v vl vu lo hi sl Q I rx hs pl pu ⟨z, r1, hz, g.ret hd (by rw [Is])⟩
    · cases hr
  | lst ds => exact lists rfl (by cases hr; rfl)
  | ref l =>
    obtain ⟨ds, h1, h2⟩ := Option.map_eq_some_iff.mp (show (lstOf S (.ref l)).map (fun ds => D.lst (cutD ds lo hi)) = some r from hr)
    exact lists h1 h2.symm
  | _ => cases hr
theorem pm_sl {lo hi : Option Expr} {mlo mhi : OD} (ha : PE X a (tE X.K W ma)) (hl : PO X lo (tM EqO X.K W mlo)) (hh : PO X hi (tM EqO X.K W mhi)) : PE X (.Subscript a (.Slice lo hi none p2) pos) (tE X.K W (mSl ma mlo mhi)) :=
  (pe_slice sm_any ha hl hh).md fun σ H Q ⟨ρ, loc, S, rl, hd, g⟩ => by
    refine ⟨ρ, loc, S, rl, hd, Good.bind g fun d S1 ρ1 H1 x hd1 e1 r1 g1 => ?_⟩
    refine ⟨ρ1, loc, S1, rl.ext e1, hd1, Good.bind g1 fun lo S2 ρ2 H2 lo' hd2 e2 r2 g2 => ?_⟩
    refine ⟨ρ2, loc, S2, (rl.ext e1).ext e2, hd2, Good.bind g2 fun hi S3 ρ3 H3 hi' hd3 e3 r3 g3 => ?_⟩
    obtain ⟨r, hr, g4⟩ := g3.need
    have r2 : lo = lo' := r2
    have r3 : hi = hi' := r3
    subst r2 r3
    exact ⟨W, σ, ρ3, S3, d, r, hd3, (r1.ext e2).ext e3, hr, g4⟩

/-! ### built-ins by name -/
def rCM (K : PySem.W.Frag) (f : List D → Sto → Out D) : List V → Hp → VK → Prop := fun xs H Q =>
  ∃ (W : WX) (σ : St) (ρ : List Addr) (S : Sto) (ds : List D), Held K ρ H S ∧ IsL K ρ H ds xs ∧ Good K W σ (Is K) Q ρ H (f ds S)
def mCall (f : List D → Sto → Out D) (ml : AD) : ED := fun loc S => (ml loc S).bind f
theorem md_call {K : PySem.W.Frag} {f : List D → Sto → Out D} {σ : St} {H : Hp} {Q : VK} (h : tE K W (mCall f ml) σ H Q) : tCB (rCM K f) (tA K W ml) σ H Q := by
  obtain ⟨ρ, loc, S, rl, hd, g⟩ := h
  exact ⟨ρ, loc, S, rl, hd, Good.bind g fun ds S1 ρ1 H1 xs hd1 e1 r1 g1 => ⟨W, σ, ρ1, S1, ds, hd1, r1, g1⟩⟩
variable {f : List D → Sto → Out D} {id T : String} {x : Str} {p : Pos}
theorem pm_callB (hc : CallR X (.builtin id) (rCM X.K f)) (hg : Gl X x) (hm : X.mg x = none) (hv : bootBuiltins x = some (.builtin id)) (ha : PA X (e :: es) (tA X.K W ml)) (hn : x ≠ "__name__" := by decide) (hdb : (x == ("__debug__" : Str)) = false := by decide)
    (hs : starEach (e :: es) X.env = (false, eval e X.env) :: starEach es X.env := by rfl) (hpl : (backTo pos (starEach es X.env)).any (·.1) = false := by rfl) :
    PE X (.Call (.Name x p) (e :: es) [] pos) (tE X.K W (mCall f ml)) := (pe_callB hc hg hm hv ha hn hdb hs hpl).md fun _ _ _ h => md_call h
theorem pm_callTy (hc : CallR X (.type T) (rCM X.K f)) (hg : Gl X x) (hm : X.mg x = none) (hv : bootBuiltins x = some (.type T)) (ha : PA X (e :: es) (tA X.K W ml)) (hn : x ≠ "__name__" := by decide) (hdb : (x == ("__debug__" : Str)) = false := by decide)
    (hs : starEach (e :: es) X.env = (false, eval e X.env) :: starEach es X.env := by rfl) (hpl : (backTo pos (starEach es X.env)).any (·.1) = false := by rfl) :
    PE X (.Call (.Name x p) (e :: es) [] pos) (tE X.K W (mCall f ml)) := (pe_callTy hc hg hm hv ha hn hdb hs hpl).md fun _ _ _ h => md_call h
theorem IsL.one {K : PySem.W.Frag} {ρ : List Addr} {H : Hp} {d : D} {xs : List V} (h : IsL K ρ H [d] xs) : ∃ x, xs = [x] ∧ Is K ρ H d x := by
  rw [IsL] at h
  obtain ⟨v, r, rfl, h1, h2⟩ := h
  rw [IsL] at h2
  subst h2
  exact ⟨v, rfl, h1⟩
theorem IsL.two {K : PySem.W.Frag} {ρ : List Addr} {H : Hp} {d d' : D} {xs : List V} (h : IsL K ρ H [d, d'] xs) : ∃ x y, xs = [x, y] ∧ Is K ρ H d x ∧ Is K ρ H d' y := by
  rw [IsL] at h
  obtain ⟨v, r, rfl, h1, h2⟩ := h
  obtain ⟨y, rfl, h3⟩ := h2.one
  exact ⟨v, y, rfl, h1, h3⟩
/-- len -/
def lenD (S : Sto) (d : D) : Option Nat := match d with
  | .str z => if z.length ≤ sizeLine then some z.length else none
  | .ref l => match S[l]? with
    | some (.dct kvs) => some kvs.length
    | some (.lst ds) => some ds.length
    | _ => none
  | .scr ns => some ns.length
  | d => (seqOf S d).map (·.length)
def fLen : List D → Sto → Out D
  | [d], S => need (lenD S d) fun n => .ok (.int n) S
  | _, _ => .no
theorem IsKV.length {K : PySem.W.Frag} {ρ : List Addr} {H : Hp} : ∀ {kvs : List (D × D)} {ks : List (Key × V)}, IsKV K ρ H kvs ks → ks.length = kvs.length
  | [], _, h => by cases h; rfl
  | (k, d) :: r, _, h => by
    obtain ⟨q, v, t, rfl, _, _, h⟩ := h
    simp [IsKV.length h]
theorem cm_len : CallR X (.builtin "len") (rCM X.K fLen) := fun pins s σ H xs us Q I r ⟨W, σ', ρ, S, ds, hd, r0, g0⟩ => by
  match ds, r0, g0 with
  | [d], r0, g0 =>
    obtain ⟨n, hn, g⟩ := g0.need
    obtain ⟨x, rfl, r1⟩ := r0.one
    have seq : ∀ {es : List D}, seqOf S d = some es → n = es.length → wpAny (model X.prog X.w) X.A (call (.builtin "len") us) (EP X pins σ Q) X.xe s := fun {es} h1 h2 => by
      subst h2
      obtain ⟨a, vs, rfl, h3, i3⟩ := hd.seqOf r1 h1
      exact call_len_seq pins s σ H _ us Q I r ⟨a, vs, rfl, h3, by rw [i3.length]; exact g.ret hd (by rw [Is])⟩
    cases d with
    | str z =>
      have hn : (if z.length ≤ sizeLine then some z.length else none) = some n := hn
      split at hn
      · rename_i hz
        cases hn
        rw [Is] at r1
        subst r1
        exact call_len pins s σ H _ us Q I r ⟨.str z, z.length, rfl, ⟨hz, rfl⟩, g.ret hd (by rw [Is])⟩
      · cases hn
    | ref l =>
      unfold lenD at hn
      simp only at hn
      split at hn
      · rename_i kvs hc
        cases hn
        obtain ⟨a, rfl, ha, ks, h1, h2⟩ := hd.at_ r1 hc
        exact call_lenD pins s σ H _ us Q I r ⟨a, ks, rfl, h1, by rw [h2.length]; exact g.ret hd (by rw [Is])⟩
      · rename_i es hc
        cases hn
        exact seq (show seqOf S (.ref l) = some es by unfold seqOf lstOf; simp [hc]) rfl
      · cases hn
    | scr ns =>
      cases hn
      rw [Is] at r1
      obtain ⟨a, rfl, h2⟩ := r1
      exact call_len_seq pins s σ H _ us Q I r ⟨a, ns.map V.int, rfl, .inl (h2.imp (·.2) (fun z => z)), by rw [List.length_map]; exact g.ret hd (by rw [Is])⟩
    | tup es => exact seq rfl (by cases hn; rfl)
    | lst es => exact seq rfl (by cases hn; rfl)
    | _ => cases hn
  | [], _, g0 => exact g0.elim
  | _ :: _ :: _, _, g0 => exact g0.elim
/-- abs, int, max, min of numbers -/
def fAbs : List D → Sto → Out D
  | [.int i], S => .ok (.int (if i < 0 then -i else i)) S
  | _, _ => .no
def fInt : List D → Sto → Out D
  | [.int i], S => .ok (.int i) S
  | [.bl k], S => .ok (.int (if k then 1 else 0)) S
  | [.str a], S => guardO (decide (a.length ≤ 640)) (need (PySem.intText? a) fun n => .ok (.int n) S)
  | _, _ => .no
def fMax : List D → Sto → Out D
  | [.int i, .int j], S => .ok (.int (if j > i then j else i)) S
  | _, _ => .no
def fMin : List D → Sto → Out D
  | [.int i, .int j], S => .ok (.int (if j < i then j else i)) S
  | _, _ => .no
theorem cm_abs : CallR X (.builtin "abs") (rCM X.K fAbs) := fun pins s σ H xs us Q I r ⟨W, σ', ρ, S, ds, hd, r0, g⟩ => by
  unfold fAbs at g
  split at g
  · obtain ⟨x, rfl, r1⟩ := r0.one
    rw [Is] at r1
    subst r1
    exact call_abs pins s σ H _ us Q I r ⟨_, rfl, g.ret hd (by rw [Is])⟩
  · exact g.elim
theorem cm_int : CallR X (.type "int") (rCM X.K fInt) := fun pins s σ H xs us Q I r ⟨W, σ', ρ, S, ds, hd, r0, g⟩ => by
  unfold fInt at g
  split at g
  · obtain ⟨x, rfl, r1⟩ := r0.one
    rw [Is] at r1
    subst r1
    exact call_int1 pins s σ H _ us Q I r (.inl ⟨_, rfl, g.ret hd (by rw [Is])⟩)
  · obtain ⟨x, rfl, r1⟩ := r0.one
    rw [Is] at r1
    subst r1
    exact call_int1 pins s σ H _ us Q I r (.inr ⟨_, rfl, g.ret hd (by rw [Is])⟩)
  · obtain ⟨x, rfl, r1⟩ := r0.one
    rw [Is] at r1
    subst r1
    obtain ⟨h1, g1⟩ := g.guard
    obtain ⟨n, h2, g2⟩ := g1.need
    exact call_int_str pins s σ H _ us Q I r ⟨_, n, rfl, h2, of_decide_eq_true h1, g2.ret hd (by rw [Is])⟩
  · exact g.elim
theorem cm_max (hc : X.calm = true) : CallR X (.builtin "max") (rCM X.K fMax) := fun pins s σ H xs us Q I r ⟨W, σ', ρ, S, ds, hd, r0, g⟩ => by
  unfold fMax at g
  split at g
  · obtain ⟨x, y, rfl, r1, r2⟩ := r0.two
    rw [Is] at r1 r2
    subst r1 r2
    exact call_max2 hc pins s σ H _ us Q I r ⟨_, _, rfl, g.ret hd (by rw [Is])⟩
  · exact g.elim
theorem cm_min (hc : X.calm = true) : CallR X (.builtin "min") (rCM X.K fMin) := fun pins s σ H xs us Q I r ⟨W, σ', ρ, S, ds, hd, r0, g⟩ => by
  unfold fMin at g
  split at g
  · obtain ⟨x, y, rfl, r1, r2⟩ := r0.two
    rw [Is] at r1 r2
    subst r1 r2
    exact call_min2 hc pins s σ H _ us Q I r ⟨_, _, rfl, g.ret hd (by rw [Is])⟩
  · exact g.elim
/-- tuple, list -/
def fTuple : List D → Sto → Out D
  | [d], S => need (seqOf S d) fun ds => .ok (.tup ds) S
  | _, _ => .no
def fList : List D → Sto → Out D
  | [d], S => need (seqOf S d) fun ds => .ok (.lst ds) S
  | _, _ => .no
/-- a list that will be changed -/
def fListO : List D → Sto → Out D
  | [d], S => need (seqOf S d) fun ds => .ok (.ref S.length) (S ++ [.lst ds])
  | _, _ => .no
theorem cm_tuple : CallR X (.type "tuple") (rCM X.K fTuple) := fun pins s σ H xs us Q I r ⟨W, σ', ρ, S, ds, hd, r0, g0⟩ => by
  match ds, r0, g0 with
  | [d], r0, g0 =>
    obtain ⟨es, h1, g⟩ := g0.need
    obtain ⟨x, rfl, r1⟩ := r0.one
    cases d with
    | tup es' =>
      cases h1
      obtain ⟨a, vs, rfl, h3, i3⟩ := r1.seqT
      exact call_tupleX pins s σ H _ us Q I r ⟨a, vs, rfl, .inr ⟨h3, g.ret hd r1⟩⟩
    | _ =>
      obtain ⟨a, vs, rfl, h3, i3⟩ := hd.lstOf r1 h1
      refine call_tupleX pins s σ H _ us Q I r ⟨a, vs, rfl, .inl ⟨SqL.of h3, fun p ob np nd => ?_⟩⟩
      obtain ⟨h4, e4, r4⟩ := hd.newX np nd i3
      exact g ρ _ _ h4 e4 r4
  | [], _, g0 => exact g0.elim
  | _ :: _ :: _, _, g0 => exact g0.elim
theorem cm_list : CallR X (.type "list") (rCM X.K fList) := fun pins s σ H xs us Q I r ⟨W, σ', ρ, S, ds, hd, r0, g0⟩ => by
  match ds, r0, g0 with
  | [d], r0, g0 =>
    obtain ⟨es, h1, g⟩ := g0.need
    obtain ⟨x, rfl, r1⟩ := r0.one
    obtain ⟨a, vs, rfl, h3, i3⟩ := hd.seqOf r1 h1
    refine call_list_of pins s σ H _ us Q I r ⟨a, vs, rfl, h3, fun p np => ?_⟩
    obtain ⟨h4, e4, r4⟩ := hd.newL np i3
    exact g ρ _ _ h4 e4 r4
  | [], _, g0 => exact g0.elim
  | _ :: _ :: _, _, g0 => exact g0.elim
theorem cm_listO : CallR X (.type "list") (rCM X.K fListO) := fun pins s σ H xs us Q I r ⟨W, σ', ρ, S, ds, hd, r0, g0⟩ => by
  match ds, r0, g0 with
  | [d], r0, g0 =>
    obtain ⟨es, h1, g⟩ := g0.need
    obtain ⟨x, rfl, r1⟩ := r0.one
    obtain ⟨a, vs, rfl, h3, i3⟩ := hd.seqOf r1 h1
    refine call_list_of pins s σ H _ us Q I r ⟨a, vs, rfl, h3, fun p np => ?_⟩
    obtain ⟨h4, e4, r4⟩ := hd.pushL np i3
    exact g _ _ _ h4 e4 r4
  | [], _, g0 => exact g0.elim
  | _ :: _ :: _, _, g0 => exact g0.elim
end
end Md

set_option Elab.async false
set_option linter.all false
set_option maxRecDepth 100000
/-! Md4: more built-ins: repr, str, sum, any, all, max, min, sorted, isinstance. -/
namespace Md
open PySem L2

section
variable {X : Cx}
/-! ### repr -/
def shownOk (p : PyData) : Bool := p.showable && !p.hasDict && decide (p.depth ≤ 40) && (p.leavesShort 400 && decide (p.bulk ≤ 30000))
def reprD (S : Sto) (d : D) : Option Str := (pyS S d).bind fun p => if shownOk p then some p.shown else none
def fRepr : List D → Sto → Out D
  | [d], S => need (reprD S d) fun x => .ok (.str x) S
  | _, _ => .no
theorem cm_repr (hg : X.A.guards = some []) (hu : X.A.units + 64 < cLine) : CallR X (.builtin "repr") (rCM X.K fRepr) := fun pins s σ H xs us Q I r ⟨W, σ', ρ, S, ds, hd, r0, g0⟩ => by
  match ds, r0, g0 with
  | [d], r0, g0 =>
    obtain ⟨x, hx, g⟩ := g0.need
    obtain ⟨p, hp, hx⟩ := Option.bind_eq_some_iff.mp hx
    split at hx
    · rename_i c
      cases hx
      unfold shownOk at c
      simp only [Bool.and_eq_true, Bool.not_eq_true', decide_eq_true_eq] at c
      obtain ⟨⟨⟨c1, c2⟩, c3⟩, c4⟩ := c
      obtain ⟨v, rfl, r1⟩ := r0.one
      obtain ⟨u, rfl, ru⟩ := vals1 r
      have dp := pyS_dp hd hp r1
      have hz : p.shown.length ≤ sizeLine := by
        have b1 := PyData.shown_le_bulk 400 (by decide) p c4.1
        have b2 : (400 + 2) * p.bulk + 400 ≤ (400 + 2) * 30000 + 400 := Nat.add_le_add_right (Nat.mul_le_mul_left _ c4.2) _
        exact Nat.le_trans b1 (Nat.le_trans b2 (by decide))
      have fin : ∀ t h' tk, (∀ b o, s.heap.get? b = some o → h'.get? b = some o) → EP X pins σ Q (.str p.shown t) { s with heap := h', toks := tk } := fun t h' tk hk =>
        ⟨.str p.shown, H, I.kept hk, ⟨t, rfl⟩, g.ret hd (by rw [Is])⟩
      cases dp with
      | non => cases ru; exact PySem.P.repr_of_none (fin _ _ _ fun _ _ e => e)
      | bl b => cases ru; exact PySem.P.repr_of_bool (fin _ _ _ fun _ _ e => e)
      | int i =>
        obtain ⟨t, rfl⟩ := ru
        exact PySem.P.repr_of_int (of_decide_eq_true c1) (fin _ _ _ fun _ _ e => e)
      | str y =>
        obtain ⟨t, rfl⟩ := ru
        exact PySem.P.repr_of_str (fin _ _ _ fun _ _ e => e) hz
      | lst h1 h2 =>
        cases ru
        obtain ⟨as, rd⟩ := Dp.reads I _ _ _ (Dp.lst h1 h2) rfl
        exact repr_of_reads' rd c1 (PyData.noDict_hsm c2) hg (by omega) (fun _ _ e => e) (fun h' t tk hk => fin t h' tk hk) hz
      | tup h1 h2 =>
        cases ru
        obtain ⟨as, rd⟩ := Dp.reads I _ _ _ (Dp.tup h1 h2) rfl
        exact repr_of_reads' rd c1 (PyData.noDict_hsm c2) hg (by omega) (fun _ _ e => e) (fun h' t tk hk => fin t h' tk hk) hz
    · cases hx
  | [], _, g0 => exact g0.elim
  | _ :: _ :: _, _, g0 => exact g0.elim
/-- str of an int, of a text -/
def fStr : List D → Sto → Out D
  | [.int i], S => guardO (decide (i.natAbs.log2 < 1920)) (.ok (.str (toString i)) S)
  | [.str x], S => .ok (.str x) S
  | _, _ => .no
theorem cm_str : CallR X (.type "str") (rCM X.K fStr) := fun pins s σ H xs us Q I r ⟨W, σ', ρ, S, ds, hd, r0, g0⟩ => by
  unfold fStr at g0
  split at g0
  · obtain ⟨x, rfl, r1⟩ := r0.one
    obtain ⟨c, g⟩ := g0.guard
    rw [Is] at r1
    subst r1
    exact call_str_int pins s σ H _ us Q I r ⟨_, rfl, of_decide_eq_true c, g.ret hd (by rw [Is])⟩
  · obtain ⟨x, rfl, r1⟩ := r0.one
    rw [Is] at r1
    subst r1
    exact SkE.call_str_str pins s σ H _ us Q I r ⟨_, rfl, g0.ret hd (by rw [Is])⟩
  · exact g0.elim

/-! ### sum, any, all, max, min of a list -/
def boolsD : List D → Option (List Bool)
  | [] => some []
  | .bl i :: r => (boolsD r).map (i :: ·)
  | _ :: _ => none
theorem boolsD_eq : ∀ {ds : List D} {ns : List Bool}, boolsD ds = some ns → ds = ns.map D.bl
  | [], _, h => by cases h; rfl
  | d :: ds, _, h => by
    cases d with
    | bl i =>
      obtain ⟨ns, h1, rfl⟩ := Option.map_eq_some_iff.mp h
      rw [boolsD_eq h1]; rfl
    | _ => cases h
theorem bools_vals {K : PySem.W.Frag} {ρ : List Addr} {H : Hp} : ∀ {ns : List Bool} {vs : List V}, IsL K ρ H (ns.map D.bl) vs → vs = ns.map V.bl
  | [], _, h => by rw [List.map_nil, IsL] at h; exact h
  | n :: ns, _, h => by
    rw [List.map_cons, IsL] at h
    obtain ⟨v, r, rfl, h1, h2⟩ := h
    rw [Is] at h1
    rw [h1, bools_vals h2]; rfl
def onInts (f : List Int → Sto → Out D) : List D → Sto → Out D
  | [d], S => need (lstOf S d) fun ds => need (intsD ds) fun ns => f ns S
  | _, _ => .no
theorem onInts_at {K : PySem.W.Frag} {f : List Int → Sto → Out D} {xs : List V} {H : Hp} {Q : VK} (h : rCM K (onInts f) xs H Q) :
    ∃ (W : WX) (σ : St) (ρ : List Addr) (S : Sto) (a : Addr) (ns : List Int), Held K ρ H S ∧ xs = [.ref a] ∧ H a = some (.lst (ns.map V.int)) ∧ Good K W σ (Is K) Q ρ H (f ns S) := by
  obtain ⟨W, σ', ρ, S, ds, hd, r0, g0⟩ := h
  match ds, r0, g0 with
  | [d], r0, g0 =>
    obtain ⟨es, h1, g1⟩ := g0.need
    obtain ⟨ns, h2, g2⟩ := g1.need
    obtain rfl := intsD_eq h2
    obtain ⟨x, rfl, r1⟩ := r0.one
    obtain ⟨a, vs, rfl, h3, i3⟩ := hd.lstOf r1 h1
    obtain rfl := ints_vals i3
    exact ⟨W, σ', ρ, S, a, ns, hd, rfl, h3, g2⟩
  | [], _, g0 => exact g0.elim
  | _ :: _ :: _, _, g0 => exact g0.elim
def fSum := onInts fun ns S => .ok (.int ns.sum) S
theorem cm_sum (hc : X.calm = true) : CallR X (.builtin "sum") (rCM X.K fSum) := fun pins s σ H xs us Q I r h => by
  obtain ⟨W, σ', ρ, S, a, ns, hd, rfl, h1, g⟩ := onInts_at h
  exact cr_sum hc pins s σ H _ us Q I r ⟨a, ns, rfl, SqL.of h1, g.ret hd (by rw [Is])⟩
/-- the greatest, the least -/
def maxI : List Int → Option Int
  | [] => none
  | n :: ns => some (ns.foldl max n)
def minI : List Int → Option Int
  | [] => none
  | n :: ns => some (ns.foldl min n)
theorem foldl_max : ∀ (ns : List Int) (n : Int), (ns.foldl max n = n ∨ ns.foldl max n ∈ ns) ∧ n ≤ ns.foldl max n ∧ ∀ y ∈ ns, y ≤ ns.foldl max n
  | [], n => ⟨.inl rfl, Int.le_refl _, fun _ h => nomatch h⟩
  | m :: ns, n => by
    obtain ⟨h1, h2, h3⟩ := foldl_max ns (max n m)
    rw [List.foldl_cons]
    refine ⟨?_, by omega, fun y hy => ?_⟩
    · rcases h1 with h1 | h1
      · rw [h1]
        by_cases h : n ≤ m
        · right; rw [Int.max_eq_right h]; exact List.mem_cons_self
        · left; exact Int.max_eq_left (by omega)
      · right; exact List.mem_cons_of_mem _ h1
    · rcases List.mem_cons.mp hy with rfl | hy
      · omega
      · exact h3 y hy
theorem foldl_min : ∀ (ns : List Int) (n : Int), (ns.foldl min n = n ∨ ns.foldl min n ∈ ns) ∧ ns.foldl min n ≤ n ∧ ∀ y ∈ ns, ns.foldl min n ≤ y
  | [], n => ⟨.inl rfl, Int.le_refl _, fun _ h => nomatch h⟩
  | m :: ns, n => by
    obtain ⟨h1, h2, h3⟩ := foldl_min ns (min n m)
    rw [List.foldl_cons]
    refine ⟨?_, by omega, fun y hy => ?_⟩
    · rcases h1 with h1 | h1
      · rw [h1]
        by_cases h : n ≤ m
        · left; exact Int.min_eq_left h
        · right; rw [Int.min_eq_right (by omega)]; exact List.mem_cons_self
      · right; exact List.mem_cons_of_mem _ h1
    · rcases List.mem_cons.mp hy with rfl | hy
      · omega
      · exact h3 y hy
def fMaxL := onInts fun ns S => need (maxI ns) fun m => .ok (.int m) S
def fMinL := onInts fun ns S => need (minI ns) fun m => .ok (.int m) S
theorem cm_maxL (hc : X.calm = true) : CallR X (.builtin "max") (rCM X.K fMaxL) := fun pins s σ H xs us Q I r h => by
  obtain ⟨W, σ', ρ, S, a, ns, hd, rfl, h1, g0⟩ := onInts_at h
  obtain ⟨m, hm, g⟩ := g0.need
  cases ns with
  | nil => cases hm
  | cons n ns =>
    cases hm
    refine cr_max hc pins s σ H _ us Q I r ⟨a, _, rfl, SqL.of h1, by simp, fun m h2 h3 => ?_⟩
    obtain ⟨e1, e2, e3⟩ := foldl_max ns n
    have : m = ns.foldl max n := by
      apply Int.le_antisymm
      · rcases List.mem_cons.mp h2 with rfl | h2
        · exact e2
        · exact e3 m h2
      · apply h3
        rcases e1 with e1 | e1
        · rw [e1]; exact List.mem_cons_self
        · exact List.mem_cons_of_mem _ e1
    subst this
    exact g.ret hd (by rw [Is])
theorem cm_minL (hc : X.calm = true) : CallR X (.builtin "min") (rCM X.K fMinL) := fun pins s σ H xs us Q I r h => by
  obtain ⟨W, σ', ρ, S, a, ns, hd, rfl, h1, g0⟩ := onInts_at h
  obtain ⟨m, hm, g⟩ := g0.need
  cases ns with
  | nil => cases hm
  | cons n ns =>
    cases hm
    refine cr_min hc pins s σ H _ us Q I r ⟨a, _, rfl, SqL.of h1, by simp, fun m h2 h3 => ?_⟩
    obtain ⟨e1, e2, e3⟩ := foldl_min ns n
    have : m = ns.foldl min n := by
      apply Int.le_antisymm
      · apply h3
        rcases e1 with e1 | e1
        · rw [e1]; exact List.mem_cons_self
        · exact List.mem_cons_of_mem _ e1
      · rcases List.mem_cons.mp h2 with rfl | h2
        · exact e2
        · exact e3 m h2
    subst this
    exact g.ret hd (by rw [Is])
def onBools (f : List Bool → Bool) : List D → Sto → Out D
  | [d], S => need (lstOf S d) fun ds => need (boolsD ds) fun bs => .ok (.bl (f bs)) S
  | _, _ => .no
theorem onBools_at {K : PySem.W.Frag} {f : List Bool → Bool} {xs : List V} {H : Hp} {Q : VK} (h : rCM K (onBools f) xs H Q) :
    ∃ (a : Addr) (bs : List Bool), xs = [.ref a] ∧ H a = some (.lst (bs.map V.bl)) ∧ Q (.bl (f bs)) H := by
  obtain ⟨W, σ', ρ, S, ds, hd, r0, g0⟩ := h
  match ds, r0, g0 with
  | [d], r0, g0 =>
    obtain ⟨es, h1, g1⟩ := g0.need
    obtain ⟨ns, h2, g2⟩ := g1.need
    obtain rfl := boolsD_eq h2
    obtain ⟨x, rfl, r1⟩ := r0.one
    obtain ⟨a, vs, rfl, h3, i3⟩ := hd.lstOf r1 h1
    obtain rfl := bools_vals i3
    exact ⟨a, ns, rfl, h3, g2.ret hd (by rw [Is])⟩
  | [], _, g0 => exact g0.elim
  | _ :: _ :: _, _, g0 => exact g0.elim
def fAny := onBools fun bs => bs.any id
def fAll := onBools fun bs => bs.all id
theorem cm_any (hc : X.calm = true) : CallR X (.builtin "any") (rCM X.K fAny) := fun pins s σ H xs us Q I r h => by
  obtain ⟨a, bs, rfl, h1, q⟩ := onBools_at h
  exact cr_any hc pins s σ H _ us Q I r ⟨a, bs, rfl, SqL.of h1, q⟩
theorem cm_all (hc : X.calm = true) : CallR X (.builtin "all") (rCM X.K fAll) := fun pins s σ H xs us Q I r h => by
  obtain ⟨a, bs, rfl, h1, q⟩ := onBools_at h
  exact cr_all hc pins s σ H _ us Q I r ⟨a, bs, rfl, SqL.of h1, q⟩

/-! ### sorted -/
def encD (d : D) : PyData := (pyD d).getD .none
def leD : D → D → Bool := PySem.W.dataLe false encD
def tupOk : PyData → Bool
  | .tuple (_ :: _) => true
  | _ => false
def flatOk : PyData → Bool
  | .none => false
  | .tuple _ => false
  | _ => true
def sortOk (ps : List PyData) : Bool := (ps.all fun p => ps.all fun q => PySem.W.alike p q) && (ps.all tupOk || ps.all flatOk) && (ps.all fun p => decide (p.depth ≤ 30)) && small ps.length
def fSorted : List D → Sto → Out D
  | [d], S => need (lstOf S d) fun ds => need (pyDL ds) fun ps => guardO (sortOk ps) (.ok (.lst (ds.mergeSort leD)) S)
  | _, _ => .no
theorem pyDL_enc : ∀ {ds : List D} {ps : List PyData}, pyDL ds = some ps → ps = ds.map encD ∧ ∀ d ∈ ds, pyD d = some (encD d)
  | [], _, h => by rw [pyDL] at h; cases h; exact ⟨rfl, fun _ m => nomatch m⟩
  | d :: ds, _, h => by
    rw [pyDL] at h
    obtain ⟨p, h3, h4⟩ := Option.bind_eq_some_iff.mp h
    obtain ⟨ps, h5, rfl⟩ := Option.map_eq_some_iff.mp h4
    obtain ⟨e1, e2⟩ := pyDL_enc h5
    have e : encD d = p := by unfold encD; rw [h3]; rfl
    refine ⟨by rw [List.map_cons, e, ← e1], fun x m => ?_⟩
    rcases List.mem_cons.mp m with rfl | m
    · rw [e]; exact h3
    · exact e2 x m
open PySem.W in
theorem each_reads {K : PySem.W.Frag} {ρ : List Addr} {H : Hp} {pins : List (Addr × Obj)} {s : Shared} {σ : St} (I : Inv X pins σ H s) : ∀ {ds : List D} {vs : List V} {us : List Value}, IsL X.K ρ H ds vs → Vals vs us → (∀ d ∈ ds, pyD d = some (encD d)) →
    EachIs (fun v b => ∃ x, RelV x v ∧ Is X.K ρ H b x) us ds ∧ EachIs (fun v b => ∃ as, Reads s.heap v (encD b) as) us ds
  | [], _, _, h, r, _ => by rw [IsL] at h; subst h; cases r; exact ⟨.nil, .nil⟩
  | d :: ds, _, _, h, r, hp => by
    rw [IsL] at h
    obtain ⟨v, t, rfl, h1, h2⟩ := h
    cases r with
    | cons r1 r2 =>
      obtain ⟨e1, e2⟩ := each_reads (K := K) I h2 r2 fun x m => hp x (List.mem_cons_of_mem _ m)
      obtain ⟨as, rd⟩ := Dp.reads I _ _ _ (pyD_dp (hp d List.mem_cons_self) h1) r1
      exact ⟨.cons ⟨v, r1, h1⟩ e1, .cons ⟨as, rd⟩ e2⟩
open PySem.W in
theorem each_back {K : PySem.W.Frag} {ρ : List Addr} {H : Hp} : ∀ {ds : List D} {us : List Value}, EachIs (fun v b => ∃ x, RelV x v ∧ Is K ρ H b x) us ds → ∃ vs, IsL K ρ H ds vs ∧ Vals vs us
  | _, _, .nil => ⟨[], IsL.nil, .nil⟩
  | _, _, .cons ⟨x, r, i⟩ t => by
    obtain ⟨vs, h1, h2⟩ := each_back t
    exact ⟨x :: vs, IsL.cons i h1, .cons r h2⟩
open PySem.W in
theorem cm_sorted (hu : X.A.units + 64 < cLine) : CallR X (.builtin "sorted") (rCM X.K fSorted) := fun pins s σ H xs us Q I r ⟨W, σ', ρ, S, ds, hd, r0, g0⟩ => by
  match ds, r0, g0 with
  | [d], r0, g0 =>
    obtain ⟨es, h1, g1⟩ := g0.need
    obtain ⟨ps, h2, g2⟩ := g1.need
    obtain ⟨hk, g⟩ := g2.guard
    obtain ⟨x, rfl, r1⟩ := r0.one
    obtain ⟨a, vs, rfl, h3, i3⟩ := hd.lstOf r1 h1
    obtain ⟨rfl, hp⟩ := pyDL_enc h2
    unfold sortOk at hk
    simp only [Bool.and_eq_true, Bool.or_eq_true, List.all_eq_true, decide_eq_true_eq, List.length_map] at hk
    obtain ⟨⟨⟨k1, k2⟩, k3⟩, k4⟩ := hk
    obtain ⟨its, rv, hl, hz⟩ := I.list (SqL.of h3)
    obtain ⟨e1, e2⟩ := each_reads (K := X.K) I i3 rv hp
    rw [Vals.ref1 r]
    refine sorted_data hl.isList e1 e2 (fun p mp q mq => k1 p mp q mq) ?_ (by rw [← i3.length]; exact hz) (fun b hb => ?_) fun out h4 h5 => ?_
    · rcases k2 with k2 | k2
      · left
        intro p mp
        have := k2 p mp
        cases p with
        | tuple xs =>
          cases xs with
          | nil => cases this
          | cons x r => exact ⟨x, r, rfl⟩
        | _ => cases this
      · right
        intro p mp
        have := k2 p mp
        refine ⟨fun e => ?_, fun xs e => ?_⟩ <;> (subst e; cases this)
    · have := k3 (encD b) (List.mem_map.mpr ⟨b, hb, rfl⟩)
      omega
    · obtain ⟨ws, i5, v5⟩ := each_back h5
      obtain ⟨ep, he'⟩ := PyProof.Rows.sortedAll_at s.heap its out.toArray
      have np : H (s.heap.objs.size + 1) = none := I.hok.fresh (Nat.le_succ _)
      have hlen : ws.length ≤ sizeLine := by
        rw [i5.length, List.length_mergeSort, ← i3.length]; exact hz
      obtain ⟨h6, e6, r6⟩ := hd.newL np i5
      exact ⟨.ref _, upd H (s.heap.objs.size + 1) (.lst ws), I.laid (t' := s.toks) (fun _ _ => PyProof.Rows.sortedAll_old) (Nat.le_succ _) ⟨hlen, out, ep, v5, he'⟩, rfl, g ρ _ _ h6 e6 r6⟩
  | [], _, g0 => exact g0.elim
  | _ :: _ :: _, _, g0 => exact g0.elim
end
end Md

set_option Elab.async false
set_option linter.all false
set_option maxRecDepth 100000
/-! Md5: methods of built-in types, dict displays, isinstance. -/
namespace Md
open PySem L2

/-! ### methods -/
def tyIs (S : Sto) (d : D) : String → Bool
  | "list" => (lstOf S d).isSome
  | "str" => match d with | .str _ => true | _ => false
  | "tuple" => match d with | .tup _ => true | _ => false
  | "dict" => match d with | .ref l => (match S[l]? with | some (.dct _) => true | _ => false) | _ => false
  | _ => false
theorem tyIs_ok {K : PySem.W.Frag} {ρ : List Addr} {H : Hp} {S : Sto} {d : D} {v : V} {T : String} (hd : Held K ρ H S) (r : Is K ρ H d v) (h : tyIs S d T = true) : tyX K T v H := by
  unfold tyIs at h
  split at h
  · obtain ⟨ds, h1⟩ := Option.isSome_iff_exists.mp h
    obtain ⟨a, vs, rfl, h2, _⟩ := hd.lstOf r h1
    exact .inl (.inl ⟨rfl, vs, SqL.of h2⟩)
  · split at h
    · rw [Is] at r; subst r; exact .inl rfl
    · cases h
  · split at h
    · rw [Is] at r
      obtain ⟨a, vs, rfl, h1, _⟩ := r
      rcases h1 with ⟨_, ob, h1, z⟩ | ⟨o, _, _, h1, h2, h3, _⟩
      · exact .inr ⟨rfl, a, ob, vs, rfl, h1, z⟩
      · exact .inl (.inr (.inl ⟨rfl, o, h1, h2, h3⟩))
    · cases h
  · split at h
    · split at h
      · rename_i kvs hc
        obtain ⟨a, rfl, _, ks, h1, _⟩ := hd.at_ r hc
        exact .inl (.inr (.inr (.inl ⟨rfl, .inl ⟨ks, h1⟩⟩)))
      · cases h
    · cases h
  · cases h
def rMM (K : PySem.W.Frag) (f : D → List D → Sto → Out D) : V → List V → Hp → VK → Prop := fun x xs H Q =>
  ∃ (W : WX) (σ : St) (ρ : List Addr) (S : Sto) (d : D) (ds : List D), Held K ρ H S ∧ Is K ρ H d x ∧ IsL K ρ H ds xs ∧ Good K W σ (Is K) Q ρ H (f d ds S)
def mMet (T : String) (f : D → List D → Sto → Out D) (mo : ED) (ml : AD) : ED := fun loc S => (mo loc S).bind fun d S1 => guardO (tyIs S1 d T) ((ml loc S1).bind fun ds S2 => f d ds S2)
section
variable {X : Cx} {W : WX} {o e : Expr} {es : List Expr} {mo : ED} {ml : AD} {name : Str} {apos cpos : Pos} {T id : String} {f : D → List D → Sto → Out D}
theorem pm_bm (pa : PlainAttrs T) (slot : Slot T name id) (hty : typeOf (.builtin id) = pure (.type "method_descriptor")) (hm : MtR X id (rMM X.K f)) (ho : PE X o (tE X.K W mo)) (ha : PA X (e :: es) (tA X.K W ml))
    (hbase : attributeBase o name X.env (eval o X.env) = eval o X.env := by rfl)
    (hfew : ((backTo cpos (starEach (e :: es) X.env)).all (fun x => !x.1) && (backToKw cpos (keywordEach [] X.env)).all (fun x => x.1.isSome)
      && decide ((e :: es).length + ([] : List Keyword).length + (if ([] : List Keyword).isEmpty then 0 else 1) < 30)) = true := by rfl)
    (hline : (apos.endLine == cpos.line) = true := by rfl) (hs : starEach (e :: es) X.env = (false, eval e X.env) :: starEach es X.env := by rfl) (hpl : (backTo cpos (starEach es X.env)).any (·.1) = false := by rfl) :
    PE X (.Call (.Attribute o name apos) (e :: es) [] cpos) (tE X.K W (mMet T f mo ml)) :=
  (pe_bmX pa slot hty hm ho ha hbase hfew hline hs hpl).md fun σ H Q ⟨ρ, loc, S, rl, hd, g⟩ => by
    refine ⟨ρ, loc, S, rl, hd, Good.bind g fun d S1 ρ1 H1 x hd1 e1 r1 g1 => ?_⟩
    obtain ⟨c, g2⟩ := g1.guard
    exact ⟨tyIs_ok hd1 r1 c, ρ1, loc, S1, rl.ext e1, hd1, Good.bind g2 fun ds S2 ρ2 H2 xs hd2 e2 r2 g3 => ⟨W, σ, ρ2, S2, d, ds, hd2, r1.ext e2, r2, g3⟩⟩
theorem pm_bm0 (pa : PlainAttrs T) (slot : Slot T name id) (hty : typeOf (.builtin id) = pure (.type "method_descriptor")) (hm : MtR X id (rMM X.K f)) (ho : PE X o (tE X.K W mo))
    (hbase : attributeBase o name X.env (eval o X.env) = eval o X.env := by rfl) (hline : (apos.endLine == cpos.line) = true := by rfl) :
    PE X (.Call (.Attribute o name apos) [] [] cpos) (tE X.K W (mMet T f mo mNil)) :=
  (pe_bm0X pa slot hty hm ho hbase hline).md fun σ H Q ⟨ρ, loc, S, rl, hd, g⟩ => by
    refine ⟨ρ, loc, S, rl, hd, Good.bind g fun d S1 ρ1 H1 x hd1 e1 r1 g1 => ?_⟩
    obtain ⟨c, g2⟩ := g1.guard
    exact ⟨tyIs_ok hd1 r1 c, W, σ, ρ1, S1, d, [], hd1, r1, IsL.nil, g2⟩
/-- a list in its cell -/
def cellL (S : Sto) (d : D) : Option (Nat × List D) := match d with
  | .ref l => match S[l]? with
    | some (.lst ds) => some (l, ds)
    | _ => none
  | _ => none
theorem cellL_at {K : PySem.W.Frag} {ρ : List Addr} {H : Hp} {S : Sto} {d : D} {v : V} {l : Nat} {ds : List D} (hd : Held K ρ H S) (r : Is K ρ H d v) (h : cellL S d = some (l, ds)) :
    ∃ a vs, v = .ref a ∧ ρ[l]? = some a ∧ H a = some (.lst vs) ∧ IsL K ρ H ds vs := by
  unfold cellL at h
  split at h
  · split at h
    · rename_i hc
      cases h
      obtain ⟨a, rfl, ha, vs, h1, h2⟩ := hd.at_ r hc
      exact ⟨a, vs, rfl, ha, h1, h2⟩
    · cases h
  · cases h
theorem Held.writeL {K : PySem.W.Frag} {ρ : List Addr} {H : Hp} {S : Sto} {l : Nat} {a : Addr} {ds : List D} {vs : List V} (hd : Held K ρ H S) (ha : ρ[l]? = some a) (i : IsL K ρ H ds vs) :
    Held K ρ (upd H a (.lst vs)) (S.set l (.lst ds)) ∧ Ext ρ H ρ (upd H a (.lst vs)) :=
  hd.write ha ⟨vs, upd_same, i.ext (Held.ext_write (List.mem_of_getElem? ha))⟩
def fAppend : D → List D → Sto → Out D
  | d, [y], S => need (cellL S d) fun p => guardO (small p.2.length) (.ok .non (S.set p.1 (.lst (p.2 ++ [y]))))
  | _, _, _ => .no
theorem mm_append : MtR X "list.append" (rMM X.K fAppend) := fun pins s σ H x xs v us Q I rx rxs ⟨W, σ', ρ, S, d, ds, hd, r1, r2, g0⟩ => by
  match ds, r2, g0 with
  | [y], r2, g0 =>
    obtain ⟨⟨l, es⟩, hc, g1⟩ := g0.need
    obtain ⟨hs, g⟩ := g1.guard
    obtain ⟨w, rfl, r3⟩ := r2.one
    obtain ⟨a, vs, rfl, ha, h1, i1⟩ := cellL_at hd r1 hc
    obtain ⟨h4, e4⟩ := hd.writeL ha (i1.append (IsL.cons r3 IsL.nil))
    exact mt_append pins s σ H _ _ v us Q I rx rxs ⟨a, vs, w, rfl, rfl, h1, by rw [i1.length]; exact small_lt hs, g ρ _ .non h4 e4 (by rw [Is])⟩
  | [], _, g0 => exact g0.elim
  | _ :: _ :: _, _, g0 => exact g0.elim
def fExtend : D → List D → Sto → Out D
  | d, [y], S => need (cellL S d) fun p => need (lstOf S y) fun zs => guardO (small (p.2.length + zs.length)) (.ok .non (S.set p.1 (.lst (p.2 ++ zs))))
  | _, _, _ => .no
theorem mm_extend : MtR X "list.extend" (rMM X.K fExtend) := fun pins s σ H x xs v us Q I rx rxs ⟨W, σ', ρ, S, d, ds, hd, r1, r2, g0⟩ => by
  match ds, r2, g0 with
  | [y], r2, g0 =>
    obtain ⟨⟨l, es⟩, hc, g1⟩ := g0.need
    obtain ⟨zs, hz, g2⟩ := g1.need
    obtain ⟨hs, g⟩ := g2.guard
    obtain ⟨w, rfl, r3⟩ := r2.one
    obtain ⟨a, vs, rfl, ha, h1, i1⟩ := cellL_at hd r1 hc
    obtain ⟨b, ws, rfl, h2, i2⟩ := hd.lstOf r3 hz
    obtain ⟨h4, e4⟩ := hd.writeL ha (i1.append i2)
    exact mt_extend pins s σ H _ _ v us Q I rx rxs ⟨a, b, vs, ws, rfl, rfl, h1, h2, by rw [i1.length, i2.length]; exact small_line hs, g ρ _ .non h4 e4 (by rw [Is])⟩
  | [], _, g0 => exact g0.elim
  | _ :: _ :: _, _, g0 => exact g0.elim
theorem IsL.dropLast {K : PySem.W.Frag} {ρ : List Addr} {H : Hp} {ds : List D} {vs : List V} (h : IsL K ρ H ds vs) : IsL K ρ H ds.dropLast vs.dropLast := by
  rw [List.dropLast_eq_take, List.dropLast_eq_take, h.length]
  exact h.take _
theorem IsL.eraseIdx {K : PySem.W.Frag} {ρ : List Addr} {H : Hp} {ds : List D} {vs : List V} (k : Nat) (h : IsL K ρ H ds vs) : IsL K ρ H (ds.eraseIdx k) (vs.eraseIdx k) := by
  rw [List.eraseIdx_eq_take_drop_succ, List.eraseIdx_eq_take_drop_succ]
  exact (h.take _).append (h.drop _)
/-- pop(), pop(i) -/
def fPop : D → List D → Sto → Out D
  | d, [], S => need (cellL S d) fun p => need (p.2[p.2.length - 1]?) fun y => .ok y (S.set p.1 (.lst p.2.dropLast))
  | d, [.int i], S => need (cellL S d) fun p => guardO (decide (0 ≤ i ∧ i < p.2.length ∧ p.2.length ≤ 1000000)) (need (p.2[i.toNat]?) fun y => .ok y (S.set p.1 (.lst (p.2.eraseIdx i.toNat))))
  | _, _, _ => .no
theorem mm_pop : MtR X "list.pop" (rMM X.K fPop) := fun pins s σ H x xs v us Q I rx rxs ⟨W, σ', ρ, S, d, ds, hd, r1, r2, g0⟩ => by
  unfold fPop at g0
  split at g0
  · obtain ⟨⟨l, es⟩, hc, g1⟩ := g0.need
    obtain ⟨y, hy, g⟩ := g1.need
    obtain ⟨a, vs, rfl, ha, h1, i1⟩ := cellL_at hd r1 hc
    rw [IsL] at r2
    subst r2
    obtain ⟨w, hw, iw⟩ := i1.get hy
    obtain ⟨h4, e4⟩ := hd.writeL ha i1.dropLast
    exact mt_pop pins s σ H _ _ v us Q I rx rxs ⟨a, vs, w, rfl, rfl, h1, by rw [i1.length]; exact hw, g ρ _ w h4 e4 (iw.ext e4)⟩
  · rename_i i
    obtain ⟨⟨l, es⟩, hc, g1⟩ := g0.need
    obtain ⟨hb, g2⟩ := g1.guard
    obtain ⟨b1, b2, b3⟩ := of_decide_eq_true hb
    obtain ⟨y, hy, g⟩ := g2.need
    obtain ⟨a, vs, rfl, ha, h1, i1⟩ := cellL_at hd r1 hc
    obtain ⟨z, rfl, r3⟩ := r2.one
    rw [Is] at r3
    subst r3
    obtain ⟨w, hw, iw⟩ := i1.get hy
    obtain ⟨h4, e4⟩ := hd.writeL ha (i1.eraseIdx i.toNat)
    have hl : vs.length = es.length := i1.length
    exact mt_popAt pins s σ H _ _ v us Q I rx rxs ⟨a, vs, i, i.toNat, w, rfl, rfl, h1, by omega, by simp only at b2 b3; omega, seqIndex_of b1 (by rw [hl]; exact b2), hw, g ρ _ w h4 e4 (iw.ext e4)⟩
  · exact g0.elim
def fInsert : D → List D → Sto → Out D
  | d, [.int i, y], S => need (cellL S d) fun p => guardO (decide (0 ≤ i ∧ i ≤ 1000000) && small p.2.length) (.ok .non (S.set p.1 (.lst (p.2.take i.toNat ++ [y] ++ p.2.drop i.toNat))))
  | _, _, _ => .no
theorem mm_insert : MtR X "list.insert" (rMM X.K fInsert) := fun pins s σ H x xs v us Q I rx rxs ⟨W, σ', ρ, S, d, ds, hd, r1, r2, g0⟩ => by
  unfold fInsert at g0
  split at g0
  · rename_i i y
    obtain ⟨⟨l, es⟩, hc, g1⟩ := g0.need
    obtain ⟨hb, g⟩ := g1.guard
    rw [Bool.and_eq_true, decide_eq_true_eq] at hb
    obtain ⟨a, vs, rfl, ha, h1, i1⟩ := cellL_at hd r1 hc
    obtain ⟨z, w, rfl, r3, r4⟩ := r2.two
    rw [Is] at r3
    subst r3
    obtain ⟨h4, e4⟩ := hd.writeL ha (((i1.take i.toNat).append (IsL.cons r4 IsL.nil)).append (i1.drop i.toNat))
    exact mt_insert pins s σ H _ _ v us Q I rx rxs ⟨a, vs, i, w, rfl, rfl, h1, by rw [i1.length]; exact small_lt hb.2, hb.1.1, by omega, g ρ _ .non h4 e4 (by rw [Is])⟩
  · exact g0.elim
/-- the first place of an equal one -/
def idxD (S : Sto) (ds : List D) (y : D) : Option Nat := (pyDL ds).bind fun ps => (pyS S y).bind fun p => if SeqAt.shaped (.list ps) && SeqAt.shaped p then ps.findIdx? (fun z => PyData.eqv z p) else none
def fIndex : D → List D → Sto → Out D
  | d, [y], S => need (lstOf S d) fun ds => need (idxD S ds y) fun j => .ok (.int (j : Nat)) S
  | _, _, _ => .no
theorem mm_index (hu : X.A.units + 65 < cLine) : MtR X "list.index" (rMM X.K fIndex) := fun pins s σ H x xs v us Q I rx rxs ⟨W, σ', ρ, S, d, ds, hd, r1, r2, g0⟩ => by
  match ds, r2, g0 with
  | [y], r2, g0 =>
    obtain ⟨es, hc, g1⟩ := g0.need
    obtain ⟨j, hj, g⟩ := g1.need
    obtain ⟨w, rfl, r3⟩ := r2.one
    obtain ⟨a, vs, rfl, h1, i1⟩ := hd.lstOf r1 hc
    obtain ⟨ps, h2, hj⟩ := Option.bind_eq_some_iff.mp hj
    obtain ⟨p, h3, hj⟩ := Option.bind_eq_some_iff.mp hj
    split at hj
    · rename_i c
      rw [Bool.and_eq_true] at c
      obtain ⟨hlt, hz, hno⟩ := List.findIdx?_eq_some_iff_getElem.mp hj
      refine mt_indexD hu pins s σ H _ _ v us Q I rx rxs ⟨a, w, p, ps, j, ps[j], rfl, rfl, .lst (SqL.of h1) (pyDL_dp h2 i1), pyS_dp hd h3 r3, c.1, c.2, List.getElem?_eq_getElem hlt, hz, fun m z' hm he => ?_, g.ret hd (by rw [Is])⟩
      have := hno m hm
      rw [List.getElem?_eq_getElem (by omega)] at he
      cases he
      simpa using this
    · cases hj
  | [], _, g0 => exact g0.elim
  | _ :: _ :: _, _, g0 => exact g0.elim
/-- d.get(k, x) -/
def fGet : D → List D → Sto → Out D
  | .ref l, [k, x], S => match S[l]? with
    | some (.dct kvs) => need (keyD k) fun _ => .ok ((lkD kvs k).getD x) S
    | _ => .no
  | _, _, _ => .no
theorem mm_get (hu : X.A.units + 1 < cLine) : MtR X "dict.get" (rMM X.K fGet) := fun pins s σ H x xs v us Q I rx rxs ⟨W, σ', ρ, S, d, ds, hd, r1, r2, g0⟩ => by
  unfold fGet at g0
  split at g0
  · rename_i l k x'
    split at g0
    · rename_i kvs hc
      obtain ⟨q, hq, g⟩ := g0.need
      obtain ⟨a, rfl, ha, ks, h1, h2⟩ := hd.at_ r1 hc
      obtain ⟨y, z, rfl, r3, r4⟩ := r2.two
      obtain rfl := keyD_V hq r3
      obtain ⟨u1, u2, rfl, ru1, ru2⟩ := vals2 rxs
      cases (show v = Value.ref a from rx)
      have hv := lkD_val hq h2
      refine d_get2 hu I (DGet.k h1) ru1 ru2 fun w' s3 I3 rw' => ?_
      cases e : lkD kvs k with
      | none =>
        rw [hv.2 e] at rw'
        rw [e] at g
        exact ⟨z, H, I3, rw', g.ret hd r4⟩
      | some d =>
        obtain ⟨v', h3, i3⟩ := hv.1 d e
        rw [h3] at rw'
        rw [e] at g
        exact ⟨v', H, I3, rw', g.ret hd i3⟩
    · exact g0.elim
  · exact g0.elim
/-- texts -/
def strsD : List D → Option (List Str)
  | [] => some []
  | .str i :: r => (strsD r).map (i :: ·)
  | _ :: _ => none
theorem strsD_eq : ∀ {ds : List D} {ns : List Str}, strsD ds = some ns → ds = ns.map D.str
  | [], _, h => by cases h; rfl
  | d :: ds, _, h => by
    cases d with
    | str i =>
      obtain ⟨ns, h1, rfl⟩ := Option.map_eq_some_iff.mp h
      rw [strsD_eq h1]; rfl
    | _ => cases h
theorem strs_vals {K : PySem.W.Frag} {ρ : List Addr} {H : Hp} : ∀ {ns : List Str} {vs : List V}, IsL K ρ H (ns.map D.str) vs → vs = ns.map V.str
  | [], _, h => by rw [List.map_nil, IsL] at h; exact h
  | n :: ns, _, h => by
    rw [List.map_cons, IsL] at h
    obtain ⟨v, r, rfl, h1, h2⟩ := h
    rw [Is] at h1
    rw [h1, strs_vals h2]; rfl
theorem IsL.of_strs {K : PySem.W.Frag} {ρ : List Addr} {H : Hp} : ∀ (ns : List Str), IsL K ρ H (ns.map D.str) (ns.map V.str)
  | [] => IsL.nil
  | n :: ns => IsL.cons (by rw [Is]) (IsL.of_strs ns)
def fJoin : D → List D → Sto → Out D
  | .str a, [y], S => need (seqOf S y) fun ds => need (strsD ds) fun ys => guardO (decide ((ys.map (·.length)).sum + ys.length * a.length ≤ 1000000)) (.ok (.str (Txt.join a ys)) S)
  | _, _, _ => .no
theorem mm_join : MtR X "str.join" (rMM X.K fJoin) := fun pins s σ H x xs v us Q I rx rxs ⟨W, σ', ρ, S, d, ds, hd, r1, r2, g0⟩ => by
  unfold fJoin at g0
  split at g0
  · obtain ⟨es, h1, g1⟩ := g0.need
    obtain ⟨ys, h2, g2⟩ := g1.need
    obtain ⟨hb, g⟩ := g2.guard
    obtain rfl := strsD_eq h2
    obtain ⟨w, rfl, r3⟩ := r2.one
    obtain ⟨a, vs, rfl, h3, i3⟩ := hd.seqOf r3 h1
    obtain rfl := strs_vals i3
    rw [Is] at r1
    exact mt_join pins s σ H _ _ v us Q I rx rxs ⟨_, a, ys, r1, rfl, h3, Nat.le_trans (of_decide_eq_true hb) (by decide), g.ret hd (by rw [Is])⟩
  · exact g0.elim
def fSplit : D → List D → Sto → Out D
  | .str a, [.str b], S => guardO (decide (0 < b.length) && small (a.length + 2)) (.ok (.lst ((Txt.split a b).map .str)) S)
  | _, _, _ => .no
theorem mm_split : MtR X "str.split" (rMM X.K fSplit) := fun pins s σ H x xs v us Q I rx rxs ⟨W, σ', ρ, S, d, ds, hd, r1, r2, g0⟩ => by
  unfold fSplit at g0
  split at g0
  · obtain ⟨hb, g⟩ := g0.guard
    rw [Bool.and_eq_true, decide_eq_true_eq] at hb
    obtain ⟨w, rfl, r3⟩ := r2.one
    rw [Is] at r1 r3
    refine mt_split pins s σ H _ _ v us Q I rx rxs ⟨_, _, r1, by rw [r3], by simp; omega, small_line hb.2, fun p np => ?_⟩
    obtain ⟨h4, e4, r4⟩ := hd.newL np (IsL.of_strs _)
    exact g ρ _ _ h4 e4 r4
  · exact g0.elim

/-! ### dicts -/
def mDct0 : ED := fun _ S => .ok (.ref S.length) (S ++ [.dct []])
theorem pm_dct0 {pos : Pos} : PE X (.Dict [] [] pos) (tE X.K W mDct0) := pe_dnewK.md fun σ H Q ⟨ρ, loc, S, rl, hd, g⟩ p np => by
  obtain ⟨h4, e4, r4⟩ := hd.push (o := .dK []) (c := .dct []) np ⟨[], upd_same, rfl⟩
  exact g _ _ _ h4 e4 r4
/-- one entry put -/
def putD (kvs : List (D × D)) (k v : D) : List (D × D) := if (kvs.any fun kv => decide (kv.1 = k)) then kvs.map (fun kv => if kv.1 = k then (kv.1, v) else kv) else kvs ++ [(k, v)]
theorem IsKV.any {K : PySem.W.Frag} {ρ : List Addr} {H : Hp} {k : D} {q : Key} (hk : keyD k = some q) : ∀ {kvs : List (D × D)} {ks : List (Key × V)}, IsKV K ρ H kvs ks → (ks.any fun kv => decide (kv.1 = q)) = (kvs.any fun kv => decide (kv.1 = k))
  | [], _, h => by cases h; rfl
  | (k', d') :: r, _, h => by
    obtain ⟨q', v, t, rfl, h1, h2, h3⟩ := h
    rw [List.any_cons, List.any_cons, IsKV.any hk h3]
    congr 1
    by_cases e : k' = k
    · subst e
      rw [hk] at h1; cases h1
      simp
    · have ne : ¬ q' = q := fun z => e (by subst z; exact keyD_inj h1 hk)
      simp [e, ne]
theorem IsKV.map_put {K : PySem.W.Frag} {ρ : List Addr} {H : Hp} {k d : D} {q : Key} {v : V} (hk : keyD k = some q) (hv : Is K ρ H d v) : ∀ {kvs : List (D × D)} {ks : List (Key × V)}, IsKV K ρ H kvs ks →
    IsKV K ρ H (kvs.map fun kv => if kv.1 = k then (kv.1, d) else kv) (ks.map fun kv => if kv.1 = q then (kv.1, v) else kv)
  | [], _, h => by cases h; rfl
  | (k', d') :: r, _, h => by
    obtain ⟨q', v', t, rfl, h1, h2, h3⟩ := h
    rw [List.map_cons, List.map_cons]
    by_cases e : k' = k
    · subst e
      rw [hk] at h1; cases h1
      simp only [if_true]
      exact ⟨q, v, _, rfl, hk, hv, IsKV.map_put hk hv h3⟩
    · have ne : ¬ q' = q := fun z => e (by subst z; exact keyD_inj h1 hk)
      simp only [if_neg e, if_neg ne]
      exact ⟨q', v', _, rfl, h1, h2, IsKV.map_put hk hv h3⟩
theorem IsKV.append {K : PySem.W.Frag} {ρ : List Addr} {H : Hp} : ∀ {kvs lvs : List (D × D)} {ks ls : List (Key × V)}, IsKV K ρ H kvs ks → IsKV K ρ H lvs ls → IsKV K ρ H (kvs ++ lvs) (ks ++ ls)
  | [], _, _, _, h, h' => by cases h; exact h'
  | (k', d') :: r, _, _, _, h, h' => by
    obtain ⟨q', v', t, rfl, h1, h2, h3⟩ := h
    exact ⟨q', v', _, rfl, h1, h2, IsKV.append h3 h'⟩
theorem IsKV.put {K : PySem.W.Frag} {ρ : List Addr} {H : Hp} {k d : D} {q : Key} {v : V} (hk : keyD k = some q) (hv : Is K ρ H d v) {kvs : List (D × D)} {ks : List (Key × V)} (h : IsKV K ρ H kvs ks) : IsKV K ρ H (putD kvs k d) (putK ks q v) := by
  unfold putD putK
  rw [IsKV.any hk h]
  split
  · exact IsKV.map_put hk hv h
  · exact h.append ⟨q, v, [], rfl, hk, hv, rfl⟩
theorem putD_len (kvs : List (D × D)) (k d : D) : (putD kvs k d).length ≤ kvs.length + 1 := by
  unfold putD
  split
  · rw [List.length_map]; omega
  · simp
/-- a display of constant keys and plain values -/
abbrev PairsD := Loc → Sto → Out (List (D × D))
def mPairs : List (ED × ED) → PairsD
  | [] => fun _ S => .ok [] S
  | (mk, mv) :: r => fun loc S => (mk loc S).bind fun k S1 => (mv loc S1).bind fun v S2 => (mPairs r loc S2).bind fun ps S3 => .ok ((k, v) :: ps) S3
def IsP (K : PySem.W.Frag) (ρ : List Addr) (H : Hp) : List (D × D) → List (V × V) → Prop
  | [], ps => ps = []
  | (k, d) :: r, ps => ∃ x y t, ps = (x, y) :: t ∧ Is K ρ H k x ∧ Is K ρ H d y ∧ IsP K ρ H r t
theorem IsP.ext {K : PySem.W.Frag} {ρ ρ' : List Addr} {H H' : Hp} (e : Ext ρ H ρ' H') : ∀ {kvs : List (D × D)} {ks : List (V × V)}, IsP K ρ H kvs ks → IsP K ρ' H' kvs ks
  | [], _, h => h
  | (k, d) :: r, _, h => by
    obtain ⟨q, v, t, rfl, h5, h6, h7⟩ := h
    exact ⟨q, v, t, rfl, h5.ext e, h6.ext e, IsP.ext e h7⟩
theorem pairs_md {K : PySem.W.Frag} : ∀ (ms : List (ED × ED)) {σ : St} {H : Hp} {Q : List (V × V) → Hp → Prop}, tM IsP K W (mPairs ms) σ H Q → tPairs (ms.map fun m => (tE K W m.1, tE K W m.2)) σ H Q
  | [], σ, H, Q, ⟨ρ, loc, S, rl, hd, g⟩ => Good.ret g hd rfl
  | (mk, mv) :: r, σ, H, Q, ⟨ρ, loc, S, rl, hd, g⟩ =>
    ⟨ρ, loc, S, rl, hd, Good.bind g fun k S1 ρ1 H1 x hd1 e1 r1 g1 => ⟨ρ1, loc, S1, rl.ext e1, hd1, Good.bind g1 fun v S2 ρ2 H2 y hd2 e2 r2 g2 =>
      pairs_md r ⟨ρ2, loc, S2, (rl.ext e1).ext e2, hd2, Good.bind g2 fun ps S3 ρ3 H3 zs hd3 e3 r3 g3 => Good.ret g3 hd3 ⟨x, y, zs, rfl, (r1.ext e2).ext e3, r2.ext e3, r3⟩⟩⟩⟩
def mDisp (ms : List (ED × ED)) : ED := fun loc S => (mPairs ms loc S).bind fun ps S1 => guardO (ps.all (fun p => (keyD p.1).isSome) && decide (ps.length ≤ 15)) (.ok (.ref S1.length) (S1 ++ [.dct (ps.foldl (fun acc kv => putD acc kv.1 kv.2) [])]))
theorem IsP.keys {K : PySem.W.Frag} {ρ : List Addr} {H : Hp} : ∀ {kvs : List (D × D)} {ps : List (V × V)}, IsP K ρ H kvs ps → (kvs.all fun p => (keyD p.1).isSome) = true → ∃ ks : List (Key × V), ps = ks.map (fun kv => (kV kv.1, kv.2)) ∧ IsKV K ρ H kvs ks
  | [], _, h, _ => by cases h; exact ⟨[], rfl, rfl⟩
  | (k, d) :: r, _, h, hk => by
    obtain ⟨x, y, t, rfl, h1, h2, h3⟩ := h
    rw [List.all_cons, Bool.and_eq_true] at hk
    obtain ⟨q, hq⟩ := Option.isSome_iff_exists.mp hk.1
    obtain ⟨ks, rfl, h4⟩ := IsP.keys h3 hk.2
    obtain rfl := keyD_V hq h1
    exact ⟨(q, y) :: ks, rfl, q, y, ks, rfl, hq, h2, h4⟩
theorem IsKV.merge {K : PySem.W.Frag} {ρ : List Addr} {H : Hp} (more : List (D × D)) : ∀ (kvs : List (D × D)) (ms ks : List (Key × V)), IsKV K ρ H more ms → IsKV K ρ H kvs ks → IsKV K ρ H (more.foldl (fun acc kv => putD acc kv.1 kv.2) kvs) (mergeK ks ms) := by
  induction more with
  | nil => intro kvs ms ks h h'; cases h; exact h'
  | cons x r ih =>
    intro kvs ms ks h h'
    obtain ⟨k, d⟩ := x
    obtain ⟨q, v, t, rfl, h1, h2, h3⟩ := h
    exact ih (putD kvs k d) t (putK ks q v) h3 (IsKV.put h1 h2 h')
theorem Good.bind2 {K : PySem.W.Frag} {W : WX} {σ : St} {ρ0 ρ : List Addr} {H0 H : Hp} {α β γ δ : Type} {R : List Addr → Hp → α → β → Prop} {R' : List Addr → Hp → γ → δ → Prop} {Q : δ → Hp → Prop} {Q' : β → Hp → Prop} {o : Out α} {k : α → Sto → Out γ}
    (g : Good K W σ R' Q ρ0 H0 (o.bind k)) (e0 : Ext ρ0 H0 ρ H)
    (f : ∀ a S1 ρ1 H1 b, Held K ρ1 H1 S1 → Ext ρ H ρ1 H1 → R ρ1 H1 a b → Good K W σ R' Q ρ0 H0 (k a S1) → Q' b H1) : Good K W σ R Q' ρ H o := by
  cases o with
  | ok a S => exact fun ρ1 H1 b hd e r => f a S ρ1 H1 b hd e r g
  | ex x S => exact fun ρ1 H1 c d hd e r => g ρ1 H1 c d hd (e0.trans e) r
  | no => exact g
end
end Md

set_option Elab.async false
set_option linter.all false
set_option maxRecDepth 100000
/-! Md6: statements, targets, walks, loops. -/
namespace Md
open PySem L2

inductive OutS where
  | nx (loc : Loc) (S : Sto) | bk (loc : Loc) (S : Sto) | ct (loc : Loc) (S : Sto)
  | rt (d : D) (S : Sto) | ex (x : Exn) (loc : Loc) (S : Sto) | no
def GoodS (K : PySem.W.Frag) (W : WX) (En : Ends) (ρ : List Addr) (H : Hp) : OutS → Prop
  | .nx loc S => ∀ ρ' H' σ', Held K ρ' H' S → Ext ρ H ρ' H' → RelL K ρ' σ' H' loc → En.nx σ' H'
  | .bk loc S => ∀ ρ' H' σ', Held K ρ' H' S → Ext ρ H ρ' H' → RelL K ρ' σ' H' loc → En.bk σ' H'
  | .ct loc S => ∀ ρ' H' σ', Held K ρ' H' S → Ext ρ H ρ' H' → RelL K ρ' σ' H' loc → En.ct σ' H'
  | .rt d S => ∀ ρ' H' v, Held K ρ' H' S → Ext ρ H ρ' H' → Is K ρ' H' d v → En.rt v H'
  | .ex x loc S => ∀ ρ' H' σ' cls dx, Held K ρ' H' S → Ext ρ H ρ' H' → RelL K ρ' σ' H' loc → IsX K ρ' H' x cls dx → W cls dx σ' H'
  | .no => False
abbrev SD := Loc → Sto → OutS
def tS (K : PySem.W.Frag) (W : WX) (m : SD) : TS := fun En σ H => ∃ ρ loc S, RelL K ρ σ H loc ∧ Held K ρ H S ∧ GoodS K W En ρ H (m loc S)
def Out.thn {α : Type} (o : Out α) (loc : Loc) (k : α → Sto → OutS) : OutS := match o with
  | .ok a S => k a S
  | .ex x S => .ex x loc S
  | .no => .no
@[simp] theorem Out.thn_ok {α : Type} (a : α) (S : Sto) (loc : Loc) (k : α → Sto → OutS) : (Out.ok a S).thn loc k = k a S := rfl
@[simp] theorem Out.thn_ex {α : Type} (x : Exn) (S : Sto) (loc : Loc) (k : α → Sto → OutS) : (Out.ex x S).thn loc k = .ex x loc S := rfl
@[simp] theorem Out.thn_no {α : Type} (loc : Loc) (k : α → Sto → OutS) : (Out.no : Out α).thn loc k = .no := rfl
def OutS.bind (o : OutS) (k : SD) : OutS := match o with
  | .nx loc S => k loc S
  | o => o
@[simp] theorem OutS.bind_nx (loc : Loc) (S : Sto) (k : SD) : (OutS.nx loc S).bind k = k loc S := rfl
@[simp] theorem OutS.bind_rt (d : D) (S : Sto) (k : SD) : (OutS.rt d S).bind k = .rt d S := rfl
@[simp] theorem OutS.bind_bk (loc : Loc) (S : Sto) (k : SD) : (OutS.bk loc S).bind k = .bk loc S := rfl
@[simp] theorem OutS.bind_ct (loc : Loc) (S : Sto) (k : SD) : (OutS.ct loc S).bind k = .ct loc S := rfl
@[simp] theorem OutS.bind_ex (x : Exn) (loc : Loc) (S : Sto) (k : SD) : (OutS.ex x loc S).bind k = .ex x loc S := rfl
@[simp] theorem OutS.bind_no (k : SD) : (OutS.no).bind k = .no := rfl
def needS {α : Type} (o : Option α) (k : α → OutS) : OutS := match o with | some a => k a | none => .no
@[simp] theorem needS_some {α : Type} (a : α) (k : α → OutS) : needS (some a) k = k a := rfl
@[simp] theorem needS_none {α : Type} (k : α → OutS) : needS (none : Option α) k = .no := rfl
def guardS (c : Bool) (k : OutS) : OutS := if c then k else .no
@[simp] theorem guardS_true (k : OutS) : guardS true k = k := rfl
@[simp] theorem guardS_false (k : OutS) : guardS false k = .no := rfl

section
variable {K : PySem.W.Frag} {W : WX} {En : Ends} {σ : St} {ρ ρ' : List Addr} {H H' : Hp} {loc : Loc} {S : Sto} {α β : Type}
theorem GoodS.ext {o : OutS} (g : GoodS K W En ρ H o) (e : Ext ρ H ρ' H') : GoodS K W En ρ' H' o := by
  cases o with
  | nx l S => exact fun ρ2 H2 s hd e2 r => g ρ2 H2 s hd (e.trans e2) r
  | bk l S => exact fun ρ2 H2 s hd e2 r => g ρ2 H2 s hd (e.trans e2) r
  | ct l S => exact fun ρ2 H2 s hd e2 r => g ρ2 H2 s hd (e.trans e2) r
  | rt d S => exact fun ρ2 H2 s hd e2 r => g ρ2 H2 s hd (e.trans e2) r
  | ex x l S => exact fun ρ2 H2 s c d hd e2 r => g ρ2 H2 s c d hd (e.trans e2) r
  | no => exact g
theorem GoodS.thn {R : List Addr → Hp → α → β → Prop} {Q' : β → Hp → Prop} {o : Out α} {k : α → Sto → OutS} (rl : RelL K ρ σ H loc) (g : GoodS K W En ρ H (o.thn loc k))
    (f : ∀ a S1 ρ1 H1 b, Held K ρ1 H1 S1 → Ext ρ H ρ1 H1 → R ρ1 H1 a b → GoodS K W En ρ1 H1 (k a S1) → Q' b H1) : Good K W σ R Q' ρ H o := by
  cases o with
  | ok a S => exact fun ρ1 H1 b hd e r => f a S ρ1 H1 b hd e r (GoodS.ext (show GoodS K W En ρ H (k a S) from g) e)
  | ex x S => exact fun ρ1 H1 c d hd e r => g ρ1 H1 σ c d hd e (rl.ext e) r
  | no => exact g
theorem GoodS.bind {o : OutS} {k : SD} (g : GoodS K W En ρ H (o.bind k)) : GoodS K W { En with nx := tS K W k En } ρ H o := by
  cases o with
  | nx l S => exact fun ρ1 H1 σ' hd e r => ⟨ρ1, l, S, r, hd, GoodS.ext (show GoodS K W En ρ H (k l S) from g) e⟩
  | bk l S => exact g
  | ct l S => exact g
  | rt d S => exact g
  | ex x l S => exact g
  | no => exact g
theorem GoodS.need {o : Option α} {k : α → OutS} (g : GoodS K W En ρ H (needS o k)) : ∃ a, o = some a ∧ GoodS K W En ρ H (k a) := by
  cases o with
  | some a => exact ⟨a, rfl, g⟩
  | none => exact g.elim
theorem GoodS.guard {c : Bool} {k : OutS} (g : GoodS K W En ρ H (guardS c k)) : c = true ∧ GoodS K W En ρ H k := by
  cases c with
  | true => exact ⟨rfl, g⟩
  | false => exact g.elim
end
theorem _root_.L2.PS.md {X : Cx} {W : WX} {st : Stmt} {t : TS} {m : SD} (h : PS X st t) (k : ∀ En σ H, tS X.K W m En σ H → t En σ H) : PS X st (tS X.K W m) :=
  ⟨fun pins s σ H En I q => h.run pins s σ H En I (k _ _ _ q)⟩
theorem _root_.L2.PSs.md {X : Cx} {W : WX} {st : List Stmt} {t : TS} {m : SD} (h : PSs X st t) (k : ∀ En σ H, tS X.K W m En σ H → t En σ H) : PSs X st (tS X.K W m) :=
  ⟨fun pins s σ H En I q => h.run pins s σ H En I (k _ _ _ q)⟩

section
variable {X : Cx} {W : WX} {e tg : Expr} {st : Stmt} {sts a b : List Stmt} {me : ED} {mt : BD} {ms mr : SD} {pos : Pos}
def sNil : SD := fun loc S => .nx loc S
def sCons (ms mr : SD) : SD := fun loc S => (ms loc S).bind mr
theorem pms_nil : PSs X [] (tS X.K W sNil) := pss_nil.md fun En σ H ⟨ρ, loc, S, rl, hd, g⟩ => g ρ H σ hd Ext.refl rl
theorem pms_cons (h1 : PS X st (tS X.K W ms)) (h2 : PSs X sts (tS X.K W mr)) : PSs X (st :: sts) (tS X.K W (sCons ms mr)) :=
  (pss_cons h1 h2).md fun En σ H ⟨ρ, loc, S, rl, hd, g⟩ => ⟨ρ, loc, S, rl, hd, GoodS.bind g⟩
theorem pms_pass : PS X (.Pass pos) (tS X.K W sNil) := ps_pass.md fun En σ H ⟨ρ, loc, S, rl, hd, g⟩ => g ρ H σ hd Ext.refl rl
def sBrk : SD := fun loc S => .bk loc S
def sCnt : SD := fun loc S => .ct loc S
theorem pms_break : PS X (.Break pos) (tS X.K W sBrk) := ps_break.md fun En σ H ⟨ρ, loc, S, rl, hd, g⟩ => g ρ H σ hd Ext.refl rl
theorem pms_continue : PS X (.Continue pos) (tS X.K W sCnt) := ps_continue.md fun En σ H ⟨ρ, loc, S, rl, hd, g⟩ => g ρ H σ hd Ext.refl rl
theorem pms_doc {x j pos'} : PS X (.Expr (.Constant (.str x) j pos) pos') (tS X.K W sNil) := ps_doc.md fun En σ H ⟨ρ, loc, S, rl, hd, g⟩ => g ρ H σ hd Ext.refl rl
def sExpr (me : ED) : SD := fun loc S => (me loc S).thn loc fun _ S1 => .nx loc S1
theorem pms_expr (h : PE X e (tE X.K W me)) (hs : swapsWith e none pos.line X.env = pure false := by rfl) : PS X (.Expr e pos) (tS X.K W (sExpr me)) :=
  (ps_expr h hs).md fun En σ H ⟨ρ, loc, S, rl, hd, g⟩ => ⟨ρ, loc, S, rl, hd, GoodS.thn rl g fun d S1 ρ1 H1 x hd1 e1 r1 g1 => g1 ρ1 H1 σ hd1 Ext.refl (rl.ext e1)⟩
def sRet (me : ED) : SD := fun loc S => (me loc S).thn loc fun d S1 => .rt d S1
theorem pms_ret (h : PE X e (tE X.K W me)) : PS X (.Return (some e) pos) (tS X.K W (sRet me)) :=
  (ps_ret h).md fun En σ H ⟨ρ, loc, S, rl, hd, g⟩ => ⟨ρ, loc, S, rl, hd, GoodS.thn rl g fun d S1 ρ1 H1 x hd1 e1 r1 g1 => g1 ρ1 H1 x hd1 Ext.refl r1⟩
def sRetN : SD := fun _ S => .rt .non S
theorem pms_retN : PS X (.Return none pos) (tS X.K W sRetN) := ps_retN.md fun En σ H ⟨ρ, loc, S, rl, hd, g⟩ => g ρ H _ hd Ext.refl (by rw [Is])
def sIf (mt : BD) (ms mr : SD) : SD := fun loc S => (mt loc S).thn loc fun k S1 => if k then ms loc S1 else mr loc S1
theorem pms_if (hc : PT X e (tT X.K W mt)) (ha : PSs X a (tS X.K W ms)) (hb : PSs X b (tS X.K W mr)) : PS X (.If e a b pos) (tS X.K W (sIf mt ms mr)) :=
  (ps_if hc ha hb).md fun En σ H ⟨ρ, loc, S, rl, hd, g⟩ => ⟨ρ, loc, S, rl, hd, GoodS.thn rl g fun k S1 ρ1 H1 x hd1 e1 r1 g1 => by
    have r1 : k = x := r1
    subst r1
    cases k with
    | true => exact iteT ⟨ρ1, loc, S1, rl.ext e1, hd1, g1⟩
    | false => exact iteF ⟨ρ1, loc, S1, rl.ext e1, hd1, g1⟩⟩
def sSet (i : Nat) (me : ED) : SD := fun loc S => (me loc S).thn loc fun d S1 => .nx (loc.set i (some d)) S1
theorem pms_set {i : Nat} {x : Str} {pos' : Pos} (hN : X.N.Nodup) (hi : X.N[i]? = some x) (hx : L2.Loc X.env.scope x) (h : PE X e (tE X.K W me)) (hs : swapsWith e (some (.Name x pos')) pos.line X.env = pure false := by rfl) (hf : X.fn x = true ∨ X.env.scope.names.lookup x = some .local := by first | exact .inl rfl | exact .inr rfl | assumption) :
    PS X (.Assign [.Name x pos'] e pos) (tS X.K W (sSet i me)) :=
  (ps_set hN hi hx h hs hf).md fun En σ H ⟨ρ, loc, S, rl, hd, g⟩ => ⟨ρ, loc, S, rl, hd, GoodS.thn rl g fun d S1 ρ1 H1 x hd1 e1 r1 g1 => g1 ρ1 H1 _ hd1 Ext.refl ((rl.ext e1).set i r1)⟩

/-! ### targets -/
def wipeL (loc : Loc) : List Nat → Loc
  | [] => loc
  | v :: vs => (wipeL loc vs).set v none
theorem RelL.wipe {K : PySem.W.Frag} {ρ : List Addr} {σ : St} {H : Hp} {loc : Loc} (r : RelL K ρ σ H loc) : ∀ vs, RelL K ρ (wipe σ vs) H (wipeL loc vs)
  | [] => r
  | v :: vs => by
    have ih := r.wipe vs
    refine ⟨by simp [L2.wipe, wipeL, ih.len], fun i d h => ?_⟩
    unfold wipeL at h
    unfold L2.wipe
    by_cases hv : v = i
    · subst hv
      by_cases hi : v < (wipeL loc vs).length
      · rw [List.getElem?_set_self hi] at h; cases h
      · rw [List.getElem?_eq_none (by simp; omega)] at h; cases h
    · rw [List.getElem?_set_ne hv] at h ⊢
      exact ih.at_ i d h
theorem wipe_at {σ : St} : ∀ {vs : List Nat} {j : Nat}, (wipe σ vs)[j]? = if j ∈ vs then σ[j]?.map (fun _ => none) else σ[j]?
  | [], j => by simp [wipe]
  | v :: vs, j => by
    unfold wipe
    have ih := @wipe_at σ vs j
    by_cases hv : v = j
    · subst hv
      rw [List.getElem?_set]
      simp only [wipe_length, List.mem_cons, true_or, if_true]
      by_cases hl : v < σ.length
      · simp [hl]
      · simp [hl]
    · rw [List.getElem?_set_ne hv, ih]
      have : j ∈ v :: vs ↔ j ∈ vs := by simp; intro e; exact absurd e.symm hv
      simp only [this]
theorem wipe_set {σ : St} {i : Nat} {x : Option V} {vs : List Nat} (h : i ∈ vs) : wipe (σ.set i x) vs = wipe σ vs := by
  apply List.ext_getElem?
  intro j
  rw [wipe_at, wipe_at]
  by_cases hj : i = j
  · subst hj
    rw [if_pos h, if_pos h, List.getElem?_set]
    by_cases hl : i < σ.length
    · simp [hl]
    · simp [hl]
  · rw [List.getElem?_set_ne hj]
abbrev TD := D → Loc → Option Loc
abbrev TDs := List D → Loc → Option Loc
structure TgM (K : PySem.W.Frag) (g : TG) (mg : TD) (is : List Nat) : Prop where
  run : ∀ (ρ : List Addr) (σ : St) (H Hx : Hp) (loc : Loc) (d : D) (v : V) (loc' : Loc) (Q : St → Hp → Prop), (∀ b o, H b = some o → Hx b = some o) → RelL K ρ σ H loc → Is K ρ H d v → mg d loc = some loc' →
    (∀ σ', RelL K ρ σ' H loc' → (∀ vs : List Nat, (∀ i ∈ is, i ∈ vs) → wipe σ' vs = wipe σ vs) → Q σ' Hx) → g v σ Hx Q
theorem SqT.sub {K : PySem.W.Frag} {H Hx : Hp} {a : Addr} {vs : List V} (sub : ∀ b o, H b = some o → Hx b = some o) (h : SqT K H a vs) : SqT K Hx a vs :=
  h.imp (fun h => h.imp (fun e => sub _ _ e) fun ⟨o, e⟩ => ⟨o, sub _ _ e⟩) fun h => h
structure TgsM (K : PySem.W.Frag) (g : TGs) (mg : TDs) (is : List Nat) : Prop where
  run : ∀ (ρ : List Addr) (σ : St) (H Hx : Hp) (loc : Loc) (d : List D) (v : List V) (loc' : Loc) (Q : St → Hp → Prop), (∀ b o, H b = some o → Hx b = some o) → RelL K ρ σ H loc → IsL K ρ H d v → mg d loc = some loc' →
    (∀ σ', RelL K ρ σ' H loc' → (∀ vs : List Nat, (∀ i ∈ is, i ∈ vs) → wipe σ' vs = wipe σ vs) → Q σ' Hx) → g v σ Hx Q
def mgName (i : Nat) : TD := fun d loc => some (loc.set i (some d))
theorem tg_name {K : PySem.W.Frag} {i : Nat} : TgM K (gName i) (mgName i) [i] :=
  ⟨fun ρ σ H Hx loc d v loc' Q sub rl r e q => by cases e; exact q _ (rl.set i r) fun vs h => wipe_set (h i (by simp))⟩
def mgNil : TDs := fun ds loc => match ds with | [] => some loc | _ => none
def mgCons (mg : TD) (mgs : TDs) : TDs := fun ds loc => match ds with | d :: r => (mg d loc).bind (mgs r) | [] => none
theorem tgs_nil {K : PySem.W.Frag} : TgsM K gNil mgNil [] :=
  ⟨fun ρ σ H Hx loc d v loc' Q sub rl r e q => by
    cases d with
    | nil => cases e; rw [IsL] at r; exact ⟨r, q σ rl fun _ _ => rfl⟩
    | cons => cases e⟩
theorem tgs_cons {K : PySem.W.Frag} {g : TG} {gs : TGs} {mg : TD} {mgs : TDs} {is js : List Nat} (h1 : TgM K g mg is) (h2 : TgsM K gs mgs js) : TgsM K (gCons g gs) (mgCons mg mgs) (is ++ js) :=
  ⟨fun ρ σ H Hx loc d v loc' Q sub rl r e q => by
    cases d with
    | nil => cases e
    | cons d ds =>
      rw [IsL] at r
      obtain ⟨x, r', rfl, r1, r2⟩ := r
      have e : (mg d loc).bind (mgs ds) = some loc' := e
      cases h : mg d loc with
      | none => rw [h] at e; cases e
      | some l1 =>
        rw [h] at e
        exact ⟨x, r', rfl, h1.run ρ σ H Hx loc d x l1 _ sub rl r1 h fun σ' rl' w' => h2.run ρ σ' H Hx l1 ds r' loc' Q sub rl' r2 e fun σ2 rl2 w2 => q σ2 rl2 fun vs hv =>
          (w2 vs fun i hi => hv i (List.mem_append_right _ hi)).trans (w' vs fun i hi => hv i (List.mem_append_left _ hi))⟩⟩
def mgTup (n : Nat) (mgs : TDs) : TD := fun d loc => match d with | .tup ds => if ds.length = n then mgs ds loc else none | .wtu ds => if ds.length = n then mgs ds loc else none | _ => none
theorem tg_tup {K : PySem.W.Frag} {gs : TGs} {mgs : TDs} {is : List Nat} {n : Nat} (h : TgsM K gs mgs is) : TgM K (gTup K n gs) (mgTup n mgs) is :=
  ⟨fun ρ σ H Hx loc d v loc' Q sub rl r e q => by
    cases d with
    | tup ds =>
      obtain ⟨a, vs, rfl, h1, h2⟩ := r.seqT
      have e : (if ds.length = n then mgs ds loc else none) = some loc' := e
      by_cases hl : ds.length = n
      · rw [if_pos hl] at e
        exact ⟨a, vs, rfl, SqT.sub sub h1, by rw [h2.length, hl], h.run ρ σ H Hx loc ds vs loc' Q sub rl h2 e q⟩
      · rw [if_neg hl] at e; cases e
    | wtu ds =>
      obtain ⟨a, vs, rfl, h1, h2⟩ := r.seqW
      have e : (if ds.length = n then mgs ds loc else none) = some loc' := e
      by_cases hl : ds.length = n
      · rw [if_pos hl] at e
        exact ⟨a, vs, rfl, SqT.sub sub h1, by rw [h2.length, hl], h.run ρ σ H Hx loc ds vs loc' Q sub rl h2 e q⟩
      · rw [if_neg hl] at e; cases e
    | _ => cases e⟩
def sAsg (mg : TD) (me : ED) : SD := fun loc S => (me loc S).thn loc fun d S1 => needS (mg d loc) fun l => .nx l S1
theorem pms_asg {g : TG} {mg : TD} {is : List Nat} (he : PE X e (tE X.K W me)) (hg : PG X tg g) (hm : TgM X.K g mg is) (hs : swapsWithSole [tg] e pos.line X.env = pure false := by rfl) (hw : swappedStores [tg] e X.env = pure none := by rfl)
    (h1 : (assignEach [tg] X.env).map (·.2) = [assign tg X.env] := by rfl) : PS X (.Assign [tg] e pos) (tS X.K W (sAsg mg me)) :=
  (ps_asg he hg hs hw h1).md fun En σ H ⟨ρ, loc, S, rl, hd, g⟩ => ⟨ρ, loc, S, rl, hd, GoodS.thn rl g fun d S1 ρ1 H1 x hd1 e1 r1 g1 => by
    obtain ⟨l, hl, g2⟩ := g1.need
    exact hm.run ρ1 σ H1 H1 loc d x l _ (fun _ _ q => q) (rl.ext e1) r1 hl fun σ' rl' _ => g2 ρ1 H1 σ' hd1 Ext.refl rl'⟩
/-- a, b = x, y -/
def sPar (i j : Nat) (ml : AD) : SD := fun loc S => (ml loc S).thn loc fun ds S1 => match ds with
  | [d1, d2] => .nx ((loc.set i (some d1)).set j (some d2)) S1
  | _ => .no
theorem pms_par {i j : Nat} {x y : Str} {a b : Expr} {ml : AD} {px py pt : Pos} {kt k2 pt2} (hc : X.calm = true) (hN : X.N.Nodup) (hi : X.N[i]? = some x) (hj : X.N[j]? = some y) (hij : i ≠ j)
    (hx : X.env.scope.names.lookup x = some .local) (hy : X.env.scope.names.lookup y = some .local) (ha : PA X [a, b] (tA X.K W ml))
    (hw : swappedStores [.Tuple [.Name x px, .Name y py] kt pt] (.Tuple [a, b] k2 pt2) X.env = pure (some [x, y]))
    (hs : swapsWithSole [.Tuple [.Name x px, .Name y py] kt pt] (.Tuple [a, b] k2 pt2) pos.line X.env = pure false := by rfl) :
    PS X (.Assign [.Tuple [.Name x px, .Name y py] kt pt] (.Tuple [a, b] k2 pt2) pos) (tS X.K W (sPar i j ml)) :=
  (ps_par hc hN hi hj hij hx hy ha hw hs).md fun En σ H ⟨ρ, loc, S, rl, hd, g⟩ => ⟨ρ, loc, S, rl, hd, GoodS.thn rl g fun ds S1 ρ1 H1 xs hd1 e1 r1 g1 => by
    match ds, r1, g1 with
    | [], _, g1 => exact g1.elim
    | [_], _, g1 => exact g1.elim
    | _ :: _ :: _ :: _, _, g1 => exact g1.elim
    | [d1, d2], r1, g1 =>
      rw [IsL] at r1
      obtain ⟨v, r, rfl, i1, r1⟩ := r1
      rw [IsL] at r1
      obtain ⟨w, r, rfl, i2, r1⟩ := r1
      rw [IsL] at r1
      subst r1
      exact ⟨v, w, rfl, g1 ρ1 H1 _ hd1 Ext.refl (((rl.ext e1).set i i1).set j i2)⟩⟩
end

/-! ### walks -/
structure Src where
  cells : List (Nat × List D)
  ds : List D
def cellOk (src : Src) (S : Sto) : Bool := src.cells.all fun p => decide (S[p.1]? = some (.lst p.2))
/-- what a walk yields; the heap may hold more than what is known -/
def WalkD (K : PySem.W.Frag) (ρ1 : List Addr) (H1 : Hp) (src : Src) (J : It) : Prop :=
  ∀ (ρ : List Addr) (H : Hp) (S : Sto) (Hx : Hp), Held K ρ H S → Ext ρ1 H1 ρ H → cellOk src S = true → (∀ b o, H b = some o → Hx b = some o) →
    (∀ i d, src.ds[i]? = some d → J.go i Hx ∧ ∀ x H3, J.yld i Hx x H3 → (H3 = Hx ∧ Is K ρ H d x) ∨ (∃ T vs ds', x = .ref T ∧ Hx T = none ∧ H3 = upd Hx T (.tup vs) ∧ d = .wtu ds' ∧ IsL K ρ H ds' vs)) ∧ J.stop src.ds.length Hx
abbrev WD := Loc → Sto → Out Src
abbrev tI : PySem.W.Frag → WX → WD → TI := tM WalkD
theorem _root_.L2.PI.md {X : Cx} {W : WX} {tg e : Expr} {t : TI} {m : WD} (h : PI X tg e t) (k : ∀ σ H Q, tI X.K W m σ H Q → t σ H Q) : PI X tg e (tI X.K W m) :=
  ⟨fun pins s σ H Q I q => h.run pins s σ H Q I (k _ _ _ q)⟩
/-- a list or a tuple -/
def iSeq (K : PySem.W.Frag) (tl : TE) : TI := fun σ H R => tl σ H fun x H1 => ∃ a, x = .ref a ∧ (((∃ xs, SqL K H1 a xs) ∧ R (Itl K a) H1) ∨ ((∃ xs, SqT K H1 a xs) ∧ R (Itt K a) H1))
theorem pi_seq {X : Cx} {tg l : Expr} {tl : TE} (hl : PE X l tl) : PI X tg l (iSeq X.K tl) := by
  refine ⟨fun pins s σ H R I h => ?_⟩
  refine thn (hl.run pins s σ H _ I h) fun v s1 ⟨x, H1, I1, r1, q1⟩ => ?_
  obtain ⟨a, e, q1⟩ := q1
  subst e
  cases r1
  rcases q1 with ⟨⟨xs, hq⟩, q⟩ | ⟨⟨xs, hq⟩, q⟩
  · obtain ⟨its, rv, p, hz⟩ := I1.list hq
    refine wpAny_pyIter_list p.isList ?_
    refine ⟨s1.heap.objs.size, [s1.heap.objs.size], _, _, H1, rfl, I1.kept (t' := s1.toks) fun b o e => Heap.get?_push_of_some _ e, turn_list a _, ⟨_, Heap.get?_push_size _ rfl, rfl, rfl⟩, fun b hb => ?_, q⟩
    have e : b = s1.heap.objs.size := by simpa using hb
    subst e
    exact I1.fpOk (Nat.le_refl _) (I1.hok.fresh (Nat.le_refl _))
  · obtain ⟨its, rv, p, hz⟩ := I1.tuple hq
    refine wpAny_pyIter_tuple (show s1.heap.IsTuple a its.toArray from p) ?_
    refine ⟨s1.heap.objs.size, [s1.heap.objs.size], _, _, H1, rfl, I1.kept (t' := s1.toks) fun b o e => Heap.get?_push_of_some _ e, turn_tuple a _, ⟨_, Heap.get?_push_size _ rfl, rfl, rfl⟩, fun b hb => ?_, q⟩
    have e : b = s1.heap.objs.size := by simpa using hb
    subst e
    exact I1.fpOk (Nat.le_refl _) (I1.hok.fresh (Nat.le_refl _))
def cellsOf (S : Sto) (d : D) : List (Nat × List D) := match d with
  | .ref l => match S[l]? with
    | some (.lst xs) => [(l, xs)]
    | _ => []
  | _ => []

/-- what stands at a, later -/
def StL (K : PySem.W.Frag) (ρ1 : List Addr) (H1 : Hp) (cs : List (Nat × List D)) (ds : List D) (a : Addr) : Prop :=
  ∀ (ρ : List Addr) (H : Hp) (S : Sto) (Hx : Hp), Held K ρ H S → Ext ρ1 H1 ρ H → (cs.all fun p => decide (S[p.1]? = some (.lst p.2))) = true → (∀ b o, H b = some o → Hx b = some o) → ∃ vs, SqL K Hx a vs ∧ IsL K ρ H ds vs
def StT (K : PySem.W.Frag) (ρ1 : List Addr) (H1 : Hp) (ds : List D) (a : Addr) : Prop :=
  ∀ (ρ : List Addr) (H : Hp) (Hx : Hp), Ext ρ1 H1 ρ H → (∀ b o, H b = some o → Hx b = some o) → ∃ vs, SqT K Hx a vs ∧ IsL K ρ H ds vs
theorem Held.stL {K : PySem.W.Frag} {ρ : List Addr} {H : Hp} {S : Sto} {d : D} {v : V} {ds : List D} (h : Held K ρ H S) (r : Is K ρ H d v) (e : Md.lstOf S d = some ds) : ∃ a, v = .ref a ∧ (∃ xs, SqL K H a xs) ∧ StL K ρ H (cellsOf S d) ds a := by
  cases d with
  | lst xs =>
    cases e
    rw [Is] at r
    obtain ⟨a, vs, rfl, n, h1, h2⟩ := r
    exact ⟨a, rfl, ⟨vs, SqL.of h1⟩, fun ρ' H' S' Hx hd' e' _ sub => ⟨vs, SqL.of (sub _ _ (e'.keep _ _ n h1).2), h2.ext e'⟩⟩
  | ref l =>
    have q := lstOf_ref e
    obtain ⟨a, rfl, ha, vs, h1, h2⟩ := h.at_ r q
    refine ⟨a, rfl, ⟨vs, SqL.of h1⟩, fun ρ' H' S' Hx hd' e' c sub => ?_⟩
    have hc : cellsOf S (.ref l) = [(l, ds)] := by simp [cellsOf, q]
    rw [hc] at c
    have c : S'[l]? = some (.lst ds) := by simpa using c
    obtain ⟨vs', h3, h4⟩ := hd'.cell l _ a c (e'.get ha)
    exact ⟨vs', SqL.of (sub _ _ h3), h4⟩
  | _ => cases e
theorem Is.stT {K : PySem.W.Frag} {ρ : List Addr} {H : Hp} {v : V} {ds : List D} (r : Is K ρ H (.tup ds) v) : ∃ a, v = .ref a ∧ (∃ xs, SqT K H a xs) ∧ StT K ρ H ds a := by
  have r0 := r
  obtain ⟨a, vs, rfl, h0, _⟩ := r0.seqT
  refine ⟨a, rfl, ⟨vs, h0⟩, fun ρ' H' Hx e' sub => ?_⟩
  obtain ⟨a', vs', q, h1, t1⟩ := (r.ext e').seqT
  cases q
  exact ⟨vs', SqT.sub sub h1, t1⟩
section
variable {K : PySem.W.Frag} {ρ1 : List Addr} {H1 : Hp} {cs ct : List (Nat × List D)} {ds es : List D} {a b : Addr}
theorem StL.walk (h : StL K ρ1 H1 cs ds a) : WalkD K ρ1 H1 ⟨cs, ds⟩ (Itl K a) := fun ρ H S Hx hd e c sub => by
  obtain ⟨vs, h1, h2⟩ := h ρ H S Hx hd e c sub
  refine ⟨fun i d hi => ?_, vs, h1, by rw [h2.length]; exact Nat.le_refl _⟩
  obtain ⟨v, h3, h4⟩ := h2.get hi
  refine ⟨⟨vs, v, h1, h3⟩, fun x H3 y => .inl ⟨y.1, ?_⟩⟩
  have := y.2 vs h1
  rw [h3] at this; cases this
  exact h4
theorem StT.walk (h : StT K ρ1 H1 ds a) : WalkD K ρ1 H1 ⟨[], ds⟩ (Itt K a) := fun ρ H S Hx hd e c sub => by
  obtain ⟨vs, h1, h2⟩ := h ρ H Hx e sub
  refine ⟨fun i d hi => ?_, vs, h1, by rw [h2.length]; exact Nat.le_refl _⟩
  obtain ⟨v, h3, h4⟩ := h2.get hi
  refine ⟨⟨vs, v, h1, h3⟩, fun x H3 y => .inl ⟨y.1, ?_⟩⟩
  have := y.2 vs h1
  rw [h3] at this; cases this
  exact h4
theorem rev_get {α : Type} {l : List α} {i : Nat} {x : α} (h : l.reverse[i]? = some x) : i < l.length ∧ l[l.length - 1 - i]? = some x := by
  obtain ⟨h1, h2⟩ := List.getElem?_eq_some_iff.mp h
  have h3 : i < l.length := by simpa using h1
  rw [List.getElem_reverse] at h2
  exact ⟨h3, by rw [List.getElem?_eq_some_iff]; exact ⟨by omega, h2⟩⟩
theorem StL.rev (h : StL K ρ1 H1 cs ds a) : WalkD K ρ1 H1 ⟨cs, ds.reverse⟩ (Itv K a ds.length) := fun ρ H S Hx hd e c sub => by
  obtain ⟨vs, h1, h2⟩ := h ρ H S Hx hd e c sub
  refine ⟨fun i d hi => ?_, by show ds.length ≤ ds.reverse.length; simp⟩
  obtain ⟨hl, hi⟩ := rev_get hi
  obtain ⟨v, h3, h4⟩ := h2.get hi
  refine ⟨⟨hl, vs, v, h1, h3⟩, fun x H3 y => .inl ⟨y.1, ?_⟩⟩
  have := y.2 vs h1
  rw [h3] at this; cases this
  exact h4
theorem StT.rev (h : StT K ρ1 H1 ds a) : WalkD K ρ1 H1 ⟨[], ds.reverse⟩ (RT.ItvT K a ds.length) := fun ρ H S Hx hd e c sub => by
  obtain ⟨vs, h1, h2⟩ := h ρ H Hx e sub
  refine ⟨fun i d hi => ?_, by show ds.length ≤ ds.reverse.length; simp⟩
  obtain ⟨hl, hi⟩ := rev_get hi
  obtain ⟨v, h3, h4⟩ := h2.get hi
  refine ⟨⟨hl, vs, v, h1, h3⟩, fun x H3 y => .inl ⟨y.1, ?_⟩⟩
  have := y.2 vs h1
  rw [h3] at this; cases this
  exact h4
def enumD (ds : List D) : List D := ds.zipIdx.map fun p => .wtu [.int (p.2 : Nat), p.1]
theorem StL.enum (h : StL K ρ1 H1 cs ds a) : WalkD K ρ1 H1 ⟨cs, enumD ds⟩ (Ite K a) := fun ρ H S Hx hd e c sub => by
  obtain ⟨vs, h1, h2⟩ := h ρ H S Hx hd e c sub
  refine ⟨fun i d hi => ?_, vs, h1, by rw [h2.length]; simp [enumD]⟩
  have hi : (enumD ds)[i]? = some d := hi
  unfold enumD at hi
  rw [List.getElem?_map, List.getElem?_zipIdx] at hi
  cases hd' : ds[i]? with
  | none => rw [hd'] at hi; cases hi
  | some d0 =>
    rw [hd'] at hi
    simp at hi
    subst hi
    obtain ⟨v, h3, h4⟩ := h2.get hd'
    refine ⟨⟨vs, v, h1, h3⟩, fun x H3 ⟨T, x', y1, y2, y3, y4⟩ => .inr ⟨T, [.int (i : Nat), x'], _, y1, y2, y3, rfl, ?_⟩⟩
    have := y4 vs h1
    rw [h3] at this; cases this
    exact IsL.cons (by rw [Is]) (IsL.cons h4 IsL.nil)
def zipD (ds es : List D) : List D := (ds.zip es).map fun p => .wtu [p.1, p.2]
theorem zipD_get {ds es : List D} {i : Nat} {d : D} (h : (zipD ds es)[i]? = some d) : ∃ x y, ds[i]? = some x ∧ es[i]? = some y ∧ d = .wtu [x, y] := by
  unfold zipD at h
  rw [List.getElem?_map] at h
  cases hz : (ds.zip es)[i]? with
  | none => rw [hz] at h; cases h
  | some p =>
    rw [hz] at h
    simp at h
    subst h
    obtain ⟨x, y⟩ := p
    rw [List.getElem?_zip_eq_some] at hz
    exact ⟨x, y, hz.1, hz.2, rfl⟩
theorem StL.zip (h : StL K ρ1 H1 cs ds a) (k : StL K ρ1 H1 ct es b) : WalkD K ρ1 H1 ⟨cs ++ ct, zipD ds es⟩ (Itz K a b) := fun ρ H S Hx hd e c sub => by
  unfold cellOk at c
  rw [List.all_append, Bool.and_eq_true] at c
  obtain ⟨vs, h1, h2⟩ := h ρ H S Hx hd e c.1 sub
  obtain ⟨us, k1, k2⟩ := k ρ H S Hx hd e c.2 sub
  refine ⟨fun i d hi => ?_, vs, us, h1, k1, by rw [h2.length, k2.length]; simp [zipD]; omega⟩
  obtain ⟨x0, y0, g1, g2, rfl⟩ := zipD_get hi
  obtain ⟨v, h3, h4⟩ := h2.get g1
  obtain ⟨u, k3, k4⟩ := k2.get g2
  refine ⟨⟨vs, us, v, u, h1, k1, h3, k3⟩, fun x H3 ⟨T, x', y', y1, y2, y3, y4, y5⟩ => .inr ⟨T, [x', y'], _, y1, y2, y3, rfl, ?_⟩⟩
  have := y4 vs h1
  rw [h3] at this; cases this
  have := y5 us k1
  rw [k3] at this; cases this
  exact IsL.cons h4 (IsL.cons k4 IsL.nil)
theorem StT.zip (h : StT K ρ1 H1 ds a) (k : StT K ρ1 H1 es b) : WalkD K ρ1 H1 ⟨[], zipD ds es⟩ (RZ.ItzT K a b) := fun ρ H S Hx hd e c sub => by
  obtain ⟨vs, h1, h2⟩ := h ρ H Hx e sub
  obtain ⟨us, k1, k2⟩ := k ρ H Hx e sub
  refine ⟨fun i d hi => ?_, vs, us, h1, k1, by rw [h2.length, k2.length]; simp [zipD]; omega⟩
  obtain ⟨x0, y0, g1, g2, rfl⟩ := zipD_get hi
  obtain ⟨v, h3, h4⟩ := h2.get g1
  obtain ⟨u, k3, k4⟩ := k2.get g2
  refine ⟨⟨vs, us, v, u, h1, k1, h3, k3⟩, fun x H3 ⟨T, x', y', y1, y2, y3, y4, y5⟩ => .inr ⟨T, [x', y'], _, y1, y2, y3, rfl, ?_⟩⟩
  have := y4 vs h1
  rw [h3] at this; cases this
  have := y5 us k1
  rw [k3] at this; cases this
  exact IsL.cons h4 (IsL.cons k4 IsL.nil)
/-- lo, lo + 1, .. -/
def rgD (lo : Int) (n : Nat) : List D := (List.range n).map fun i => .int (lo + (i : Nat))
theorem rgD_get {lo : Int} {n i : Nat} {d : D} (h : (rgD lo n)[i]? = some d) : i < n ∧ d = .int (lo + (i : Nat)) := by
  unfold rgD at h
  rw [List.getElem?_map] at h
  cases hz : (List.range n)[i]? with
  | none => rw [hz] at h; cases h
  | some p =>
    rw [hz] at h
    obtain ⟨h1, h2⟩ := List.getElem?_eq_some_iff.mp hz
    simp at h h1 h2
    subst h2 h
    exact ⟨h1, rfl⟩
theorem rg_walk {lo : Int} {n : Nat} : WalkD K ρ1 H1 ⟨[], rgD lo n⟩ (Itr lo n) := fun ρ H S Hx hd e c sub => by
  refine ⟨fun i d hi => ?_, by show n ≤ (rgD lo n).length; simp [rgD]⟩
  obtain ⟨h1, rfl⟩ := rgD_get hi
  exact ⟨h1, fun x H3 y => .inl ⟨y.1, by rw [Is]; exact y.2⟩⟩
end
section
variable {X : Cx} {W : WX} {e e2 tg : Expr} {sts : List Stmt} {ma mb : ED} {mt : BD} {ms : SD} {ml : AD} {pos : Pos}
def mSeq (ma : ED) : WD := fun loc S => (ma loc S).bind fun d S1 => need (seqOf S1 d) fun ds => .ok ⟨cellsOf S1 d, ds⟩ S1
theorem pmi_seq (ha : PE X e (tE X.K W ma)) : PI X tg e (tI X.K W (mSeq ma)) :=
  (pi_seq ha).md fun σ H Q ⟨ρ, loc, S, rl, hd, g⟩ => ⟨ρ, loc, S, rl, hd, Good.bind g fun d S1 ρ1 H1 x hd1 e1 r1 g1 => by
    obtain ⟨ds, hq, g2⟩ := g1.need
    cases d with
    | tup xs =>
      cases hq
      obtain ⟨a, rfl, h1, h2⟩ := r1.stT
      exact ⟨a, rfl, .inr ⟨h1, g2 ρ1 H1 _ hd1 Ext.refl h2.walk⟩⟩
    | lst xs =>
      obtain ⟨a, rfl, h1, h2⟩ := hd1.stL r1 hq
      exact ⟨a, rfl, .inl ⟨h1, g2 ρ1 H1 _ hd1 Ext.refl h2.walk⟩⟩
    | ref l =>
      obtain ⟨a, rfl, h1, h2⟩ := hd1.stL r1 hq
      exact ⟨a, rfl, .inl ⟨h1, g2 ρ1 H1 _ hd1 Ext.refl h2.walk⟩⟩
    | _ => cases hq⟩
open Classical in
/-- small bounds; not to be computed with -/
noncomputable def bnd62 (j : Int) : Bool := @decide (-(2 ^ 62) ≤ j ∧ j < 2 ^ 62) (Classical.propDecidable _)
theorem bnd62_ok {j : Int} (h : bnd62 j = true) : -(2 ^ 62) ≤ j ∧ j < 2 ^ 62 := by
  exact @of_decide_eq_true _ (Classical.propDecidable _) h
def intOf : D → Option Int
  | .int i => some i
  | _ => none
def int1 : List D → Option Int
  | [d] => intOf d
  | _ => none
def int2 : List D → Option (Int × Int)
  | [d, f] => match intOf d, intOf f with
    | some i, some j => some (i, j)
    | _, _ => none
  | _ => none
theorem intOf_ok {d : D} {i : Int} (h : intOf d = some i) : d = .int i := by
  cases d <;> simp [intOf] at h
  rw [h]
theorem int1_ok {ds : List D} {i : Int} (h : int1 ds = some i) : ds = [.int i] := by
  unfold int1 at h
  split at h
  · rw [intOf_ok h]
  · cases h
theorem int2_ok {ds : List D} {p : Int × Int} (h : int2 ds = some p) : ds = [.int p.1, .int p.2] := by
  unfold int2 at h
  split at h
  · split at h
    · rename_i q1 q2
      cases h
      rw [intOf_ok q1, intOf_ok q2]
    · cases h
  · cases h
noncomputable def mRng1 (ml : AD) : WD := fun loc S => (ml loc S).bind fun ds S1 => need (int1 ds) fun j => guardO (bnd62 j) (.ok ⟨[], rgD 0 j.toNat⟩ S1)
noncomputable def mRng2 (ml : AD) : WD := fun loc S => (ml loc S).bind fun ds S1 => need (int2 ds) fun p => guardO (bnd62 p.1 && bnd62 p.2) (.ok ⟨[], rgD p.1 (p.2 - p.1).toNat⟩ S1)
theorem pmi_rng1 {a : Expr} {p pos : Pos} (hg : Gl X "range") (hm : X.mg "range" = none) (ha : PA X [a] (tA X.K W ml)) (hs : starEach [a] X.env = [(false, eval a X.env)] := by rfl) : PI X tg (.Call (.Name "range" p) [a] [] pos) (tI X.K W (mRng1 ml)) :=
  (pi_range1 hg hm ha hs).md fun σ H Q ⟨ρ, loc, S, rl, hd, g⟩ => ⟨ρ, loc, S, rl, hd, Good.bind g fun ds S1 ρ1 H1 xs hd1 e1 r1 g1 => by
    obtain ⟨j, hj, g2⟩ := g1.need
    obtain ⟨c, g3⟩ := g2.guard
    obtain rfl := int1_ok hj
    rw [IsL] at r1
    obtain ⟨v, r, rfl, i1, r1⟩ := r1
    rw [IsL] at r1
    subst r1
    rw [Is] at i1
    subst i1
    exact ⟨j, rfl, (bnd62_ok c).1, (bnd62_ok c).2, g3 ρ1 H1 _ hd1 Ext.refl rg_walk⟩⟩
theorem pmi_rng2 {a b : Expr} {p pos : Pos} (hg : Gl X "range") (hm : X.mg "range" = none) (ha : PA X [a, b] (tA X.K W ml)) (hs : starEach [a, b] X.env = [(false, eval a X.env), (false, eval b X.env)] := by rfl) (hs2 : starEach [b] X.env = [(false, eval b X.env)] := by rfl) :
    PI X tg (.Call (.Name "range" p) [a, b] [] pos) (tI X.K W (mRng2 ml)) :=
  (pi_range2 hg hm ha hs hs2).md fun σ H Q ⟨ρ, loc, S, rl, hd, g⟩ => ⟨ρ, loc, S, rl, hd, Good.bind g fun ds S1 ρ1 H1 xs hd1 e1 r1 g1 => by
    obtain ⟨⟨i, j⟩, hj, g2⟩ := g1.need
    obtain ⟨c, g3⟩ := g2.guard
    obtain rfl := int2_ok hj
    rw [Bool.and_eq_true] at c
    rw [IsL] at r1
    obtain ⟨v, r, rfl, i1, r1⟩ := r1
    rw [IsL] at r1
    obtain ⟨w, r, rfl, i2, r1⟩ := r1
    rw [IsL] at r1
    subst r1
    rw [Is] at i1
    rw [Is] at i2
    subst i1 i2
    exact ⟨i, j, rfl, ⟨(bnd62_ok c.1).1, (bnd62_ok c.1).2, (bnd62_ok c.2).1, (bnd62_ok c.2).2⟩, g3 ρ1 H1 _ hd1 Ext.refl rg_walk⟩⟩
def mEnum (ml : AD) : WD := fun loc S => (ml loc S).bind fun xs S1 => match xs with
  | [d] => need (lstOf S1 d) fun ds => .ok ⟨cellsOf S1 d, enumD ds⟩ S1
  | _ => .no
theorem pmi_enum {p pos tpos : Pos} {elts : List Expr} {kk : Nat} (hg : Gl X "enumerate") (hm : X.mg "enumerate" = none) (ha : PA X [e] (tA X.K W ml)) (hs : starEach [e] X.env = [(false, eval e X.env)] := by rfl) :
    PI X (.Tuple elts kk tpos) (.Call (.Name "enumerate" p) [e] [] pos) (tI X.K W (mEnum ml)) :=
  (pi_enum hg hm ha hs).md fun σ H Q ⟨ρ, loc, S, rl, hd, g⟩ => ⟨ρ, loc, S, rl, hd, Good.bind g fun ds S1 ρ1 H1 xs hd1 e1 r1 g1 => by
    match ds, r1, g1 with
    | [], _, g1 => exact g1.elim
    | _ :: _ :: _, _, g1 => exact g1.elim
    | [d], r1, g1 =>
      obtain ⟨ds, hq, g2⟩ := Good.need g1
      rw [IsL] at r1
      obtain ⟨v, r, rfl, i1, r1⟩ := r1
      rw [IsL] at r1
      subst r1
      obtain ⟨a, rfl, ⟨vs, h1⟩, h2⟩ := hd1.stL i1 hq
      exact ⟨a, vs, rfl, h1, g2 ρ1 H1 _ hd1 Ext.refl h2.enum⟩⟩
def zipSrc (S : Sto) (d f : D) : Option Src := match d, f with
  | .tup xs, .tup ys => some ⟨[], zipD xs ys⟩
  | d, f => match lstOf S d, lstOf S f with
    | some xs, some ys => some ⟨cellsOf S d ++ cellsOf S f, zipD xs ys⟩
    | _, _ => none
def mZip (ml : AD) : WD := fun loc S => (ml loc S).bind fun xs S1 => match xs with
  | [d, f] => need (zipSrc S1 d f) fun s => .ok s S1
  | _ => .no
theorem pmi_zip {p pos tpos : Pos} {elts : List Expr} {kk : Nat} (hg : Gl X "zip") (hm : X.mg "zip" = none) (ha : PA X [e, e2] (tA X.K W ml))
    (hs : starEach [e, e2] X.env = (false, eval e X.env) :: starEach [e2] X.env := by rfl) (hpl : (backTo pos (starEach [e2] X.env)).any (·.1) = false := by rfl) :
    PI X (.Tuple elts kk tpos) (.Call (.Name "zip" p) [e, e2] [] pos) (tI X.K W (mZip ml)) :=
  (RZ.pi_zipA hg hm ha hs hpl).md fun σ H Q ⟨ρ, loc, S, rl, hd, g⟩ => ⟨ρ, loc, S, rl, hd, Good.bind g fun ds S1 ρ1 H1 xs hd1 e1 r1 g1 => by
    match ds, r1, g1 with
    | [], _, g1 => exact g1.elim
    | [_], _, g1 => exact g1.elim
    | _ :: _ :: _ :: _, _, g1 => exact g1.elim
    | [d, f], r1, g1 =>
      obtain ⟨s, hq, g2⟩ := Good.need g1
      rw [IsL] at r1
      obtain ⟨v, r, rfl, i1, r1⟩ := r1
      rw [IsL] at r1
      obtain ⟨w, r, rfl, i2, r1⟩ := r1
      rw [IsL] at r1
      subst r1
      unfold zipSrc at hq
      split at hq
      · cases hq
        obtain ⟨a, rfl, ⟨vs, h1⟩, h2⟩ := i1.stT
        obtain ⟨b, rfl, ⟨us, k1⟩, k2⟩ := i2.stT
        exact ⟨a, b, vs, us, rfl, .inr ⟨h1, k1, g2 ρ1 H1 _ hd1 Ext.refl (h2.zip k2)⟩⟩
      · split at hq
        · rename_i q1 q2
          cases hq
          obtain ⟨a, rfl, ⟨vs, h1⟩, h2⟩ := hd1.stL i1 q1
          obtain ⟨b, rfl, ⟨us, k1⟩, k2⟩ := hd1.stL i2 q2
          exact ⟨a, b, vs, us, rfl, .inl ⟨h1, k1, g2 ρ1 H1 _ hd1 Ext.refl (h2.zip k2)⟩⟩
        · cases hq⟩
/-! ### loops -/
def loopS (o : OutS) (k : SD) : OutS := match o with
  | .nx l S => k l S
  | .ct l S => k l S
  | .bk l S => .nx l S
  | o => o
theorem GoodS.loop {K : PySem.W.Frag} {En : Ends} {ρ : List Addr} {H : Hp} {o : OutS} {k : SD} {N : St → Hp → Prop} (g : GoodS K W En ρ H (loopS o k))
    (hN : ∀ ρ' l S σ' H', RelL K ρ' σ' H' l → Held K ρ' H' S → Ext ρ H ρ' H' → GoodS K W En ρ' H' (k l S) → N σ' H') : GoodS K W { En with nx := N, ct := N, bk := En.nx } ρ H o := by
  cases o with
  | nx l S => exact fun ρ1 H1 σ' hd e r => hN ρ1 l S σ' H1 r hd e (GoodS.ext (show GoodS K W En ρ H (k l S) from g) e)
  | ct l S => exact fun ρ1 H1 σ' hd e r => hN ρ1 l S σ' H1 r hd e (GoodS.ext (show GoodS K W En ρ H (k l S) from g) e)
  | bk l S => exact g
  | rt d S => exact g
  | ex x l S => exact g
  | no => exact g
def sWhile (mt : BD) (ms : SD) : Nat → SD
  | 0 => fun _ _ => .no
  | n + 1 => fun loc S => (mt loc S).thn loc fun k S1 => if k then loopS (ms loc S1) (sWhile mt ms n) else .nx loc S1
theorem pms_while (n : Nat) (hp : PassesOwn (model X.prog X.w) X.A X.env X.xe) (hc : PT X e (tT X.K W mt)) (hb : PSs X sts (tS X.K W ms)) : PS X (.While e sts [] pos) (tS X.K W (sWhile mt ms n)) :=
  (ps_while hp hc hb).md fun En σ H ⟨ρ, loc, S, rl, hd, g⟩ => by
    refine ⟨fun m σ H => ∃ ρ loc S, RelL X.K ρ σ H loc ∧ Held X.K ρ H S ∧ GoodS X.K W En ρ H (sWhile mt ms m loc S), ⟨n, ρ, loc, S, rl, hd, g⟩, ?_⟩
    rintro m σ H ⟨ρ, loc, S, rl, hd, g⟩
    cases m with
    | zero => exact g.elim
    | succ m =>
      refine ⟨ρ, loc, S, rl, hd, GoodS.thn rl g fun k S1 ρ1 H1 x hd1 e1 r1 g1 => ?_⟩
      have r1 : k = x := r1
      subst r1
      cases k with
      | true =>
        rw [if_pos rfl] at g1 ⊢
        refine ⟨fun σ H => ∃ ρ loc S, RelL X.K ρ σ H loc ∧ Held X.K ρ H S ∧ GoodS X.K W En ρ H (sWhile mt ms m loc S), fun σ' H' q => ⟨m, Nat.lt_succ_self _, q⟩, ρ1, loc, S1, rl.ext e1, hd1, ?_⟩
        exact GoodS.loop g1 fun ρ' l S' σ' H' r' hd' _ g' => ⟨ρ', l, S', r', hd', g'⟩
      | false =>
        rw [if_neg Bool.false_ne_true] at g1 ⊢
        exact g1 ρ1 H1 σ hd1 Ext.refl (rl.ext e1)
/-- one turn behind another -/
def forGo (ok : Sto → Bool) (mg : TD) (ms : SD) : List D → SD
  | [] => fun loc S => guardS (ok S) (.nx loc S)
  | d :: r => fun loc S => guardS (ok S) (needS (mg d loc) fun l => loopS (ms l S) (forGo ok mg ms r))
def sFor (mi : WD) (mg : TD) (ms : SD) : SD := fun loc S => (mi loc S).thn loc fun src S1 => forGo (cellOk src) mg ms src.ds loc S1
theorem yld_held {K : PySem.W.Frag} {ρ : List Addr} {H H3 : Hp} {S : Sto} {d : D} {x : V} (hd : Held K ρ H S) (h : (H3 = H ∧ Is K ρ H d x) ∨ (∃ T vs ds', x = .ref T ∧ H T = none ∧ H3 = upd H T (.tup vs) ∧ d = .wtu ds' ∧ IsL K ρ H ds' vs)) : Held K ρ H3 S ∧ Ext ρ H ρ H3 ∧ Is K ρ H3 d x := by
  rcases h with ⟨rfl, r⟩ | ⟨T, vs, ds', rfl, n, rfl, rfl, r⟩
  · exact ⟨hd, Ext.refl, r⟩
  · exact hd.newW n r
theorem pms_for {iter : Expr} {g : TG} {mg : TD} {is : List Nat} {mi : WD} (hp : PassesOwn (model X.prog X.w) X.A X.env X.xe) (hc : X.calm = true) (hi : PI X tg iter (tI X.K W mi)) (hg : PG X tg g) (hm : TgM X.K g mg is) (hb : PSs X sts (tS X.K W ms))
    (hs : ∀ x, foldedSetIterable iter X.env x = pure x := by intro _; rfl) : PS X (.For tg iter sts [] pos) (tS X.K W (sFor mi mg ms)) :=
  (ps_for hp hc hi hg hb hs).md fun En σ H ⟨ρ, loc, S, rl, hd, gg⟩ => by
    refine ⟨ρ, loc, S, rl, hd, GoodS.thn rl gg fun src S1 ρ1 H1 J hd1 e1 wk g1 => ?_⟩
    let P : Nat → St → Hp → Prop := fun i σ H => i ≤ src.ds.length ∧ ∃ ρ loc S, RelL X.K ρ σ H loc ∧ Held X.K ρ H S ∧ Ext ρ1 H1 ρ H ∧ GoodS X.K W En ρ H (forGo (cellOk src) mg ms (src.ds.drop i) loc S)
    refine ⟨fun i m σ H => m = src.ds.length - i ∧ P i σ H, ⟨_, rfl, Nat.zero_le _, ρ1, loc, S1, rl.ext e1, hd1, Ext.refl, g1⟩, ?_⟩
    rintro i m σ H ⟨rfl, hi, ρ2, l2, S2, rl2, hd2, e2, g2⟩
    by_cases hlt : i < src.ds.length
    · rw [List.drop_eq_getElem_cons hlt] at g2
      obtain ⟨c, g2⟩ := GoodS.guard g2
      obtain ⟨w1, _⟩ := wk ρ2 H S2 H hd2 e2 c (fun _ _ q => q)
      obtain ⟨w2, w3⟩ := w1 i _ (List.getElem?_eq_getElem hlt)
      refine .inr ⟨w2, P (i + 1), fun σ' H' p' => ⟨src.ds.length - (i + 1), by omega, rfl, p'⟩, fun x H3 y => ?_⟩
      obtain ⟨hd3, e3, r3⟩ := yld_held hd2 (w3 x H3 y)
      obtain ⟨l, hl, g3⟩ := GoodS.need g2
      refine hm.run ρ2 σ H3 H3 l2 _ x l _ (fun _ _ q => q) (rl2.ext e3) r3 hl fun σ' rl' _ => ⟨ρ2, l, S2, rl', hd3, ?_⟩
      exact GoodS.loop (g3.ext e3) fun ρ' l' S' σ'' H' r' hd' e' g' => ⟨hlt, ρ', l', S', r', hd', (e2.trans e3).trans e', g'⟩
    · have hi' : i = src.ds.length := by omega
      subst hi'
      rw [List.drop_length] at g2
      obtain ⟨c, g2⟩ := GoodS.guard g2
      obtain ⟨_, w1⟩ := wk ρ2 H S2 H hd2 e2 c (fun _ _ q => q)
      exact .inl ⟨w1, g2 ρ2 H σ hd2 Ext.refl rl2⟩
end
end Md

set_option Elab.async false
set_option linter.all false
set_option maxRecDepth 100000
/-! Md7: comprehensions. -/
namespace Md
open PySem L2

def del (H : Hp) (p : Addr) : Hp := fun b => if b = p then none else H b
def Dark (o : HO) : Prop := (∀ vs, o ≠ .lst vs) ∧ (∀ vs, o ≠ .tup vs) ∧ (∀ o' vs, o ≠ .frz o' (.tup vs)) ∧ (∀ o' vs, o ≠ .frz o' (.lst vs)) ∧ o ≠ .dK []
theorem del_self {H : Hp} {p : Addr} : del H p p = none := if_pos rfl
theorem del_ne {H : Hp} {p b : Addr} (h : b ≠ p) : del H p b = H b := if_neg h
theorem upd_del {H : Hp} {p : Addr} {o : HO} : upd (del H p) p o = upd H p o := by
  funext b
  by_cases hb : b = p
  · subst hb; rw [upd_same, upd_same]
  · rw [upd_ne hb, upd_ne hb, del_ne hb]
section
variable {K : PySem.W.Frag} {ρ : List Addr} {H : Hp} {p : Addr} {o : HO}
theorem shed_nl (hp : H p = some o) (dk : Dark o) {b : Addr} {xs : List V} (h : H b = some (.lst xs)) : b ≠ p := fun z => by
  subst z; rw [hp] at h; exact dk.1 xs (Option.some.inj h)
theorem shed_nt (hp : H p = some o) (dk : Dark o) {b : Addr} {xs : List V} (h : Rd H b (.tup xs)) : b ≠ p := fun z => by
  subst z
  rcases h with h | ⟨o', h⟩
  · rw [hp] at h; exact dk.2.1 xs (Option.some.inj h)
  · rw [hp] at h; exact dk.2.2.1 o' xs (Option.some.inj h)
theorem shed_nr (hp : H p = some o) (dk : Dark o) {b : Addr} {xs : List V} (h : Rd H b (.lst xs)) : b ≠ p := fun z => by
  subst z
  rcases h with h | ⟨o', h⟩
  · rw [hp] at h; exact dk.1 xs (Option.some.inj h)
  · rw [hp] at h; exact dk.2.2.2.1 o' xs (Option.some.inj h)
mutual
theorem shed_is (hp : H p = some o) (dk : Dark o) : ∀ {d : D} {v : V}, Is K ρ H d v → Is K ρ (del H p) d v
  | .non, _, h => by rw [Is] at h ⊢; exact h
  | .bl _, _, h => by rw [Is] at h ⊢; exact h
  | .int _, _, h => by rw [Is] at h ⊢; exact h
  | .str _, _, h => by rw [Is] at h ⊢; exact h
  | .adr _, _, h => by rw [Is] at h ⊢; exact h
  | .ref _, _, h => by rw [Is] at h ⊢; exact h
  | .tup ds, _, h => by
    rw [Is] at h ⊢
    obtain ⟨a, vs, rfl, h1, h2⟩ := h
    exact ⟨a, vs, rfl, h1.imp (fun ⟨m, ob, r, z⟩ => ⟨m, ob, (del_ne (shed_nt hp dk (.inr ⟨ob, r⟩))).trans r, z⟩) (fun z => z), shed_isL hp dk h2⟩
  | .wtu ds, _, h => by
    rw [Is] at h ⊢
    obtain ⟨a, vs, rfl, m, h1, h2⟩ := h
    exact ⟨a, vs, rfl, m, (del_ne (shed_nt hp dk (.inl h1))).trans h1, shed_isL hp dk h2⟩
  | .lsx ds, _, h => by
    rw [Is] at h ⊢
    obtain ⟨a, vs, rfl, m, h1, h2⟩ := h
    exact ⟨a, vs, rfl, m, (del_ne (shed_nl hp dk h1)).trans h1, shed_isL hp dk h2⟩
  | .lst ds, _, h => by
    rw [Is] at h ⊢
    obtain ⟨a, vs, rfl, m, h1, h2⟩ := h
    exact ⟨a, vs, rfl, m, (del_ne (shed_nl hp dk h1)).trans h1, shed_isL hp dk h2⟩
  | .scr ns, _, h => by
    rw [Is] at h ⊢
    obtain ⟨a, rfl, h1⟩ := h
    exact ⟨a, rfl, h1.imp (fun ⟨m, r⟩ => ⟨m, by
      have ne := shed_nr hp dk r
      exact r.imp (fun z => (del_ne ne).trans z) fun ⟨o', z⟩ => ⟨o', (del_ne ne).trans z⟩⟩) (fun z => z)⟩
  | .edc, _, h => by
    rw [Is] at h ⊢
    obtain ⟨a, rfl, m, h1⟩ := h
    have ne : a ≠ p := fun z => by subst z; rw [hp] at h1; exact dk.2.2.2.2 (Option.some.inj h1)
    exact ⟨a, rfl, m, (del_ne ne).trans h1⟩
  | .fn _, _, h => by rw [Is] at h ⊢; exact h
theorem shed_isL (hp : H p = some o) (dk : Dark o) : ∀ {ds : List D} {vs : List V}, IsL K ρ H ds vs → IsL K ρ (del H p) ds vs
  | [], _, h => by rw [IsL] at h ⊢; exact h
  | d :: ds, _, h => by
    rw [IsL] at h ⊢
    obtain ⟨v, r, rfl, h1, t⟩ := h
    exact ⟨v, r, rfl, shed_is hp dk h1, shed_isL hp dk t⟩
end
theorem shed_kv (hp : H p = some o) (dk : Dark o) : ∀ {kvs : List (D × D)} {ks : List (Key × V)}, IsKV K ρ H kvs ks → IsKV K ρ (del H p) kvs ks
  | [], _, h => h
  | (k, d) :: r, _, h => by
    obtain ⟨q, v, t, rfl, h1, h2, h3⟩ := h
    exact ⟨q, v, t, rfl, h1, shed_is hp dk h2, shed_kv hp dk h3⟩
theorem shed_kn (hp : H p = some o) (dk : Dark o) : ∀ {kvs : List (D × D)} {ks : List (NestedKey × Addr × V)}, IsKN K ρ H kvs ks → IsKN K ρ (del H p) kvs ks
  | [], _, h => h
  | (k, d) :: r, _, h => by
    obtain ⟨q, b, v, t, rfl, h1, h0, h2, h3⟩ := h
    exact ⟨q, b, v, t, rfl, h1, shed_is hp dk h0, shed_is hp dk h2, shed_kn hp dk h3⟩
theorem shed_fs (hp : H p = some o) (dk : Dark o) : ∀ {fs : List (Str × D)} {vs : List (Str × V)}, IsFs K ρ H fs vs → IsFs K ρ (del H p) fs vs
  | [], _, h => h
  | (k, d) :: r, _, h => by
    obtain ⟨v, t, rfl, h2, h3⟩ := h
    exact ⟨v, t, rfl, shed_is hp dk h2, shed_fs hp dk h3⟩
theorem shed_held {S : Sto} (hp : H p = some o) (dk : Dark o) (np : p ∉ ρ) (h : Held K ρ H S) : Held K ρ (del H p) S := ⟨h.len, h.nd, fun l c a h1 h2 => by
  have ne : a ≠ p := fun z => np (by rw [← z]; exact List.mem_of_getElem? h2)
  have ca := h.cell l c a h1 h2
  cases c with
  | lst ds => obtain ⟨vs, h3, h4⟩ := ca; exact ⟨vs, (del_ne ne).trans h3, shed_isL hp dk h4⟩
  | dct kvs => obtain ⟨ks, h3, h4⟩ := ca; exact ⟨ks, (del_ne ne).trans h3, shed_kv hp dk h4⟩
  | dcn kvs => obtain ⟨ks, h3, h4, h5⟩ := ca; exact ⟨ks, (del_ne ne).trans h3, shed_kn hp dk h4, h5⟩
  | lkd kvs => obtain ⟨o, ks, h3, h4⟩ := ca; exact ⟨o, ks, (del_ne ne).trans h3, shed_kv hp dk h4⟩
  | ins C fs => obtain ⟨C, dx, vs, h2, h3, h4⟩ := ca; exact ⟨C, dx, vs, h2, (del_ne ne).trans h3, shed_fs hp dk h4⟩⟩
theorem shed_rel {σ : St} {loc : Loc} (hp : H p = some o) (dk : Dark o) (h : RelL K ρ σ H loc) : RelL K ρ σ (del H p) loc :=
  ⟨h.len, fun i d q => let ⟨v, h1, h2⟩ := h.at_ i d q; ⟨v, h1, shed_is hp dk h2⟩⟩
theorem dark_frz {od : Obj} {vs : List V} : Dark (.frz od (.frz od (.lst vs))) := ⟨fun _ => nofun, fun _ => nofun, fun _ _ => nofun, fun _ _ => nofun, nofun⟩
/-- the heap without p, of one that has it -/
theorem shed_ext {ρ' : List Addr} {H0 H' : Hp} (n : H0 p = none) (np : p ∉ ρ) (e : Ext ρ (upd H0 p o) ρ' H') : Ext ρ H0 ρ' (del H' p) ∧ H' p = some o ∧ p ∉ ρ' := by
  obtain ⟨n1, q1⟩ := e.keep p o np upd_same
  refine ⟨⟨e.pre, fun a u m q => ?_⟩, q1, n1⟩
  have ne := ne_of_none q n
  obtain ⟨n2, q2⟩ := e.keep a u m (by rw [upd_ne ne]; exact q)
  exact ⟨n2, (del_ne ne).trans q2⟩
end

/-- a list is put away while something runs -/
def hidL (od : Obj) (xs : List V) : HO := .frz od (.frz od (.lst xs))
def tHid (t : TE) : TE := fun σ H Q => ∃ d xs, H d = some (.lst xs) ∧ ∀ od, t σ (upd H d (hidL od xs)) fun v H' => H' d = some (hidL od xs) ∧ Q v (upd H' d (.lst xs))
def tHidT (t : TT) : TT := fun σ H Q => ∃ d xs, H d = some (.lst xs) ∧ ∀ od, t σ (upd H d (hidL od xs)) fun v H' => H' d = some (hidL od xs) ∧ Q v (upd H' d (.lst xs))
section
variable {X : Cx} {pins : List (Addr × Obj)} {σ : St} {H : Hp} {s : Shared}
theorem inv_hide {d : Addr} {xs : List V} (I : Inv X pins σ H s) (h : H d = some (.lst xs)) : ∃ od, Inv X pins σ (upd H d (hidL od xs)) s := by
  have x := I.hok d _ h
  obtain ⟨z, its, n, r, e⟩ := id x
  exact ⟨_, I.write (x := d) (e := d) (t' := s.toks) (h' := s.heap) (by rw [h]; trivial) (.inl rfl) (fun _ _ _ q => q) ⟨_, e⟩ ⟨e, e, x⟩⟩
theorem inv_show {d : Addr} {od : Obj} {xs : List V} (I : Inv X pins σ H s) (h : H d = some (hidL od xs)) (hn : ∀ o' u', X.H_0 d ≠ some (.frz o' u')) : Inv X pins σ (upd H d (.lst xs)) s := by
  have I2 := (I.unlock h hn).unlock upd_same hn
  rw [upd_upd] at I2
  exact I2
theorem pe_hid {e : Expr} {t : TE} (h : PE X e t) : PE X e (tHid t) := by
  constructor
  intro pins s σ H Q I ⟨d, xs, hd, hw⟩
  obtain ⟨od, I1⟩ := inv_hide I hd
  refine thn (h.run pins s σ _ _ I1 (hw od)) fun v s1 ⟨x, H1, I2, r, e2, q⟩ => ?_
  exact ⟨x, _, inv_show I2 e2 (I.nofrz hd trivial), r, q⟩
theorem pt_hid {e : Expr} {t : TT} (h : PT X e t) : PT X e (tHidT t) := by
  constructor
  intro pins s σ H Q I ⟨d, xs, hd, hw⟩
  obtain ⟨od, I1⟩ := inv_hide I hd
  refine thn (h.run pins s σ _ _ I1 (hw od)) fun v s1 ⟨H1, I2, e2, q⟩ => ?_
  exact ⟨_, inv_show I2 e2 (I.nofrz hd trivial), q⟩
end

theorem guardO_bind {α β : Type} (c : Bool) (k : Out α) (f : α → Sto → Out β) : (guardO c k).bind f = guardO c (k.bind f) := by cases c <;> rfl
theorem need_bind {α β γ : Type} (o : Option γ) (k : γ → Out α) (f : α → Sto → Out β) : (need o k).bind f = need o fun x => (k x).bind f := by cases o <;> rfl
/-- in a comprehension nothing is raised -/
abbrev WF : WX := fun _ _ _ _ => False
def noex {α : Type} (o : Out α) : Out α := match o with
  | .ex _ _ => .no
  | o => o
@[simp] theorem noex_ok {α : Type} (a : α) (S : Sto) : noex (Out.ok a S) = .ok a S := rfl
@[simp] theorem noex_no {α : Type} : noex (Out.no : Out α) = .no := rfl
@[simp] theorem noex_ex {α : Type} (x : Exn) (S : Sto) : noex (Out.ex x S : Out α) = .no := rfl
theorem Good.bindN {K : PySem.W.Frag} {W : WX} {σ σ' : St} {ρ0 ρ : List Addr} {H0 H : Hp} {α β γ δ : Type} {R : List Addr → Hp → α → β → Prop} {R' : List Addr → Hp → γ → δ → Prop} {Q : δ → Hp → Prop} {Q' : β → Hp → Prop} {o : Out α} {k : α → Sto → Out γ}
    (g : Good K W σ R' Q ρ0 H0 ((noex o).bind k))
    (f : ∀ a S1 ρ1 H1 b, Held K ρ1 H1 S1 → Ext ρ H ρ1 H1 → R ρ1 H1 a b → Good K W σ R' Q ρ0 H0 (k a S1) → Q' b H1) : Good K WF σ' R Q' ρ H o := by
  cases o with
  | ok a S => exact fun ρ1 H1 b hd e r => f a S ρ1 H1 b hd e r g
  | ex x S => exact g.elim
  | no => exact g
/-- one turn behind another -/
def lcGo (ok : Sto → Bool) (mg : TD) (mt : BD) (me : ED) (lw : Loc) : List D → List D → Sto → Out (List D)
  | [], acc, S => guardO (ok S) (.ok acc S)
  | d :: r, acc, S => guardO (ok S) (need (mg d lw) fun l => (noex (mt l S)).bind fun b S1 =>
      if b then (noex (me l S1)).bind fun y S2 => guardO (small acc.length) (lcGo ok mg mt me lw r (acc ++ [y]) S2) else lcGo ok mg mt me lw r acc S1)
def mLcF (fin : List D → Sto → Out D) (mi : WD) (mg : TD) (mt : BD) (me : ED) (vs : List Nat) : ED := fun loc S => (mi loc S).bind fun src S1 => (lcGo (cellOk src) mg mt me (wipeL loc vs) src.ds [] S1).bind fin
def finL (ds : List D) (S : Sto) : Out D := .ok (.lst ds) S
def finO (ds : List D) (S : Sto) : Out D := .ok (.ref S.length) (S ++ [.lst ds])
def FinOk (fin : List D → Sto → Out D) : Prop := fin = finL ∨ fin = finO
def mLc : WD → TD → BD → ED → List Nat → ED := mLcF finL
def mLcO : WD → TD → BD → ED → List Nat → ED := mLcF finO
def mYes : BD := fun _ S => .ok true S
section
variable {X : Cx} {W : WX} {mi : WD} {g : TG} {mg : TD} {mt : BD} {me : ED} {is vs : List Nat} {fin : List D → Sto → Out D}
theorem upd_comm {H : Hp} {a b : Addr} {o u : HO} (h : a ≠ b) : upd (upd H a o) b u = upd (upd H b u) a o := by
  funext c
  by_cases h1 : c = a
  · subst h1; rw [upd_ne h, upd_same, upd_same]
  · by_cases h2 : c = b
    · subst h2; rw [upd_same, upd_ne h1, upd_same]
    · rw [upd_ne h2, upd_ne h1, upd_ne h1, upd_ne h2]
theorem lc_md {K : PySem.W.Frag} (hf : FinOk fin) (hm : TgM K g mg is) (his : ∀ i ∈ is, i ∈ vs) {σ : St} {H : Hp} {Q : VK} (h : tE K W (mLcF fin mi mg mt me vs) σ H Q) :
    tLc (tI K W mi) g (tHidT (tT K WF mt)) (tHid (tE K WF me)) vs σ H Q := by
  obtain ⟨ρ, loc, S, rl, hd, gg⟩ := h
  refine ⟨ρ, loc, S, rl, hd, Good.bind gg fun src S1 ρ1 H1 J hd1 e1 wk g1 Dd nD => ?_⟩
  let P : Nat → Hp → Prop := fun i H => i ≤ src.ds.length ∧ ∃ ρ2 Hs S2 acc dacc, H = upd Hs Dd (.lst acc) ∧ Hs Dd = none ∧ Dd ∉ ρ2 ∧ Held K ρ2 Hs S2 ∧ Ext ρ1 H1 ρ2 Hs ∧ IsL K ρ2 Hs dacc acc ∧
    Good K W σ (Is K) Q ρ1 H1 ((lcGo (cellOk src) mg mt me (wipeL loc vs) (src.ds.drop i) dacc S2).bind fin)
  refine ⟨fun i m H => m = src.ds.length - i ∧ P i H, ⟨_, rfl, Nat.zero_le _, ρ1, H1, S1, [], [], rfl, nD, hd1.out nD, hd1, Ext.refl, IsL.nil, g1⟩, ?_⟩
  rintro i m H ⟨rfl, hi, ρ2, Hs, S2, acc, dacc, rfl, nDs, npD, hd2, e2, ra, g2⟩
  have sub : ∀ b o, Hs b = some o → upd Hs Dd (.lst acc) b = some o := fun b o q => by rw [upd_ne (ne_of_none q nDs)]; exact q
  by_cases hlt : i < src.ds.length
  · rw [List.drop_eq_getElem_cons hlt] at g2
    rw [lcGo, guardO_bind] at g2
    obtain ⟨c, g3⟩ := g2.guard
    rw [need_bind] at g3
    obtain ⟨w1, _⟩ := wk ρ2 Hs S2 _ hd2 e2 c sub
    obtain ⟨w2, w3⟩ := w1 i _ (List.getElem?_eq_getElem hlt)
    refine .inr ⟨w2, P (i + 1), fun H' p' => ⟨src.ds.length - (i + 1), by omega, rfl, p'⟩, fun x H3 y => ?_⟩
    -- the heap known behind the step
    have step : ∃ Hs3, H3 = upd Hs3 Dd (.lst acc) ∧ Hs3 Dd = none ∧ Held K ρ2 Hs3 S2 ∧ Ext ρ2 Hs ρ2 Hs3 ∧ Is K ρ2 Hs3 src.ds[i] x := by
      rcases w3 x H3 y with ⟨rfl, r⟩ | ⟨T, us, ds', rfl, n, rfl, e, r⟩
      · exact ⟨Hs, rfl, nDs, hd2, Ext.refl, r⟩
      · have ne : Dd ≠ T := fun z => by subst z; rw [upd_same] at n; cases n
        have nT : Hs T = none := by rw [upd_ne (fun z => ne z.symm)] at n; exact n
        obtain ⟨h3, e3, r3⟩ := hd2.newW nT r
        rw [e]
        exact ⟨_, upd_comm ne, by rw [upd_ne ne]; exact nDs, h3, e3, r3⟩
    obtain ⟨Hs3, rfl, nD3, hd3, e3, r3⟩ := step
    have sub3 : ∀ b o, Hs3 b = some o → upd Hs3 Dd (.lst acc) b = some o := fun b o q => by rw [upd_ne (ne_of_none q nD3)]; exact q
    obtain ⟨l, hl, g4⟩ := g3.need
    rw [Out.bind_bind] at g4
    have rw0 : RelL K ρ2 (wipe σ vs) Hs3 (wipeL loc vs) := (((rl.ext e1).ext e2).ext e3).wipe vs
    refine hm.run ρ2 (wipe σ vs) Hs3 _ _ _ x l _ sub3 rw0 r3 hl fun σ2 rl2 hw => ⟨(hw vs his).trans ?_, ?_⟩
    · apply List.ext_getElem?
      intro j
      rw [wipe_at, wipe_at]
      by_cases hj : j ∈ vs
      · rw [if_pos hj, if_pos hj]
        cases σ[j]? <;> rfl
      · rw [if_neg hj]
    -- the test, under the lock
    refine ⟨Dd, acc, upd_same, fun od => ?_⟩
    rw [upd_upd]
    obtain ⟨hdL, eL⟩ := hd3.fresh (o := hidL od acc) nD3
    refine ⟨ρ2, l, S2, rl2.ext eL, hdL, Good.bindN g4 fun b S3 ρ3 H3 b' hd4 e4 rb g6 => ?_⟩
    have rb : b = b' := rb
    subst rb
    obtain ⟨e5, q5, n5⟩ := shed_ext nD3 npD e4
    have hd5 := shed_held q5 dark_frz n5 hd4
    refine ⟨q5, ?_⟩
    rw [← upd_del (H := H3)]
    cases b with
    | false =>
      rw [if_neg Bool.false_ne_true] at g6 ⊢
      exact ⟨hlt, ρ3, del H3 Dd, S3, acc, dacc, rfl, del_self, n5, hd5, (e2.trans e3).trans e5, (ra.ext e3).ext e5, g6⟩
    | true =>
      rw [if_pos rfl] at g6 ⊢
      refine ⟨Dd, acc, upd_same, fun od2 => ?_⟩
      rw [upd_upd]
      obtain ⟨hdM, eM⟩ := hd5.fresh (o := hidL od2 acc) del_self
      rw [Out.bind_bind] at g6
      refine ⟨ρ3, l, S3, ((rl2.ext e5).ext eM), hdM, Good.bindN g6 fun y S4 ρ4 H4 v hd6 e6 ry g8 => ?_⟩
      obtain ⟨e7, q7, n7⟩ := shed_ext del_self n5 e6
      have hd7 := shed_held q7 dark_frz n7 hd6
      rw [guardO_bind] at g8
      have gs := g8.guard
      refine ⟨q7, acc, upd_same, by rw [(ra.length)]; exact small_lt gs.1, hlt, ρ4, del H4 Dd, S4, acc ++ [v], dacc ++ [y], ?_, del_self, n7, hd7, ((e2.trans e3).trans e5).trans e7, ((((ra.ext e3).ext e5).ext e7)).append (IsL.cons (shed_is q7 dark_frz ry) IsL.nil), gs.2⟩
      rw [upd_upd, upd_del]
  · have hi' : i = src.ds.length := by omega
    subst hi'
    rw [List.drop_length] at g2
    rw [lcGo, guardO_bind] at g2
    have gb := g2.guard
    obtain ⟨_, w1⟩ := wk ρ2 Hs S2 _ hd2 e2 gb.1 sub
    refine .inl ⟨w1, ?_⟩
    rcases hf with rfl | rfl
    · obtain ⟨h3, e3, r3⟩ := hd2.newL nDs ra
      exact gb.2 ρ2 _ _ h3 (e2.trans e3) r3
    · obtain ⟨h3, e3, r3⟩ := hd2.pushL nDs ra
      exact gb.2 _ _ _ h3 (e2.trans e3) r3
theorem pts_md0 {mt : BD} (h : mt = mYes) : PTs X [] (tHidT (tT X.K WF mt)) := by
  subst h
  refine ⟨fun pins s σ H Q I hw => pts_nil.run pins s σ H Q I ?_⟩
  obtain ⟨d, u, hd, hw⟩ := hw
  obtain ⟨ρ, loc, S, rl, hh, g⟩ := hw ⟨.none, none, .fields #[], #[]⟩
  have := (Good.ret g hh rfl).2
  have eu : upd H d (.lst u) = H := by
    funext b
    by_cases hb : b = d
    · subst hb; rw [upd_same, hd]
    · rw [upd_ne hb]
  rw [upd_upd, eu] at this
  exact this
theorem pts_md1 {c : Expr} {mt : BD} (h : PT X c (tT X.K WF mt)) : PTs X [c] (tHidT (tT X.K WF mt)) := pts_one (pt_hid h)
variable {elt tg iter : Expr} {ifs : List Expr} {scope : Scope} {own : List (Str × Nat)} {pos : Pos}
theorem pm_lc (hf : FinOk fin) (hc : X.calm = true) (hN : X.N.Nodup) (hi : PI X tg iter (tI X.K W mi)) (ok : BlkOk X.N X.env.scope scope own) (hm : TgM X.K g mg is) (his : ∀ i ∈ is, i ∈ own.map (·.2))
    (hg : ∀ (s : Shared) (H : Hp) (C : Addr) (cl : List (Str × Addr)) (fp : List Addr), PG (X.blk s H scope (compEnvC scope cl C X.env) fp) tg g)
    (ht : ∀ (s : Shared) (H : Hp) (C : Addr) (cl : List (Str × Addr)) (fp : List Addr), PTs (X.blk s H scope (compEnvC scope cl C X.env) fp) ifs (tHidT (tT X.K WF mt)))
    (he : ∀ (s : Shared) (H : Hp) (C : Addr) (cl : List (Str × Addr)) (fp : List Addr), PE (X.blk s H scope (compEnvC scope cl C X.env) fp) elt (tE X.K WF me)) (hs : ∀ x, foldedSetIterable iter X.env x = pure x := by intro _; rfl) :
    PE X (.ListComp elt [⟨tg, iter, ifs, 0⟩] scope pos) (tE X.K W (mLcF fin mi mg mt me (own.map (·.2)))) :=
  (pe_lc hc hN hi ok hg ht (fun s H C cl fp => pe_hid (he s H C cl fp)) hs).md fun σ H Q h => lc_md hf hm his h
theorem pms_setLc {i : Nat} {y : Str} {py spos : Pos} (hf : FinOk fin) (hc : X.calm = true) (hN : X.N.Nodup) (hy : X.N[i]? = some y) (hyl : X.env.scope.names.lookup y = some .local)
    (hsw : swapsWith (.ListComp elt [⟨tg, iter, ifs, 0⟩] scope pos) (some (.Name y py)) spos.line X.env = pure true) (hi : PI X tg iter (tI X.K W mi)) (ok : BlkOk X.N X.env.scope scope own) (hm : TgM X.K g mg is) (his : ∀ i ∈ is, i ∈ own.map (·.2))
    (hg : ∀ (s : Shared) (H : Hp) (C : Addr) (cl : List (Str × Addr)) (fp : List Addr), PG (X.blk s H scope (compEnvC scope cl C X.env) fp) tg g)
    (ht : ∀ (s : Shared) (H : Hp) (C : Addr) (cl : List (Str × Addr)) (fp : List Addr), PTs (X.blk s H scope (compEnvC scope cl C X.env) fp) ifs (tHidT (tT X.K WF mt)))
    (he : ∀ (s : Shared) (H : Hp) (C : Addr) (cl : List (Str × Addr)) (fp : List Addr), PE (X.blk s H scope (compEnvC scope cl C X.env) fp) elt (tE X.K WF me)) (hs : ∀ x, foldedSetIterable iter X.env x = pure x := by intro _; rfl) :
    PS X (.Assign [.Name y py] (.ListComp elt [⟨tg, iter, ifs, 0⟩] scope pos) spos) (tS X.K W (sSet i (mLcF fin mi mg mt me (own.map (·.2))))) :=
  (ps_setLc hc hN hy hyl hsw hi ok hg ht (fun s H C cl fp => pe_hid (he s H C cl fp)) hs).md fun En σ H ⟨ρ, loc, S, rl, hd, gs⟩ =>
    lc_md hf hm his ⟨ρ, loc, S, rl, hd, GoodS.thn rl gs fun d S1 ρ1 H1 x hd1 e1 r1 g1 => g1 ρ1 H1 _ hd1 Ext.refl ((rl.ext e1).set i r1)⟩
end
end Md

set_option Elab.async false
set_option linter.all false
set_option maxRecDepth 100000
/-! Md8: defs: what a call leaves behind for its caller; calls. -/
namespace Md
open PySem L2

/-! ### the caller's cells only -/
mutual
def refsB (n : Nat) : D → Bool
  | .ref l => decide (l < n)
  | .tup ds => refsBL n ds
  | .lst ds => refsBL n ds
  | .wtu ds => refsBL n ds
  | .lsx ds => refsBL n ds
  | _ => true
def refsBL (n : Nat) : List D → Bool
  | [] => true
  | d :: ds => refsB n d && refsBL n ds
end
def refsKV (n : Nat) : List (D × D) → Bool
  | [] => true
  | (_, d) :: r => refsB n d && refsKV n r
def refsFs (n : Nat) : List (Str × D) → Bool
  | [] => true
  | (_, d) :: r => refsB n d && refsFs n r
def refsKN (n : Nat) : List (D × D) → Bool
  | [] => true
  | (k, d) :: r => refsB n k && (refsB n d && refsKN n r)
def cellB (n : Nat) : Cell → Bool
  | .lst ds => refsBL n ds
  | .dct kvs => refsKV n kvs
  | .ins _ fs => refsFs n fs
  | .dcn kvs => refsKN n kvs
  | .lkd kvs => refsKV n kvs
def cutC (n : Nat) : List Cell → List Cell → Bool
  | [], [] => true
  | c :: cs, c' :: cs' => (decide (c = c') || cellB n c') && cutC n cs cs'
  | _, _ => false
def thawL (f : D → Option D) : List D → Option (List D)
  | [] => some []
  | d :: ds => match f d, thawL f ds with
    | some x, some xs => some (x :: xs)
    | _, _ => none
def thawN (f : D → Option D) (S : Sto) : D → Option D
  | .tup ds => (thawL f ds).map .tup
  | .lst ds => (thawL f ds).map .lst
  | .ref l => match S[l]? with
    | some (.lst xs) => (thawL f xs).map .lst
    | _ => none
  | _ => none
def thaw : Nat → Nat → Sto → D → Option D
  | 0, n, _, d => if refsB n d then some d else none
  | k + 1, n, S, d => if refsB n d then some d else thawN (thaw k n S) S d
section
variable {K : PySem.W.Frag} {ρ : List Addr} {H : Hp} {n : Nat}
theorem take_get {l : Nat} {a : Addr} (hl : l < n) (h : ρ[l]? = some a) : (ρ.take n)[l]? = some a := by
  rw [List.getElem?_take_of_lt hl]; exact h
theorem not_take {a : Addr} (h : a ∉ ρ) : a ∉ ρ.take n := fun m => h (List.mem_of_mem_take m)
mutual
theorem refsB_is : ∀ {d : D} {v : V}, refsB n d = true → Is K ρ H d v → Is K (ρ.take n) H d v
  | .non, _, _, h => by rw [Is] at h ⊢; exact h
  | .bl _, _, _, h => by rw [Is] at h ⊢; exact h
  | .int _, _, _, h => by rw [Is] at h ⊢; exact h
  | .str _, _, _, h => by rw [Is] at h ⊢; exact h
  | .adr _, _, _, h => by rw [Is] at h ⊢; exact h
  | .ref l, _, c, h => by
    rw [refsB, decide_eq_true_eq] at c
    rw [Is] at h ⊢
    obtain ⟨a, h1, rfl⟩ := h
    exact ⟨a, take_get c h1, rfl⟩
  | .tup ds, _, c, h => by
    rw [refsB] at c
    rw [Is] at h ⊢
    obtain ⟨a, vs, rfl, h1, h2⟩ := h
    exact ⟨a, vs, rfl, h1.imp (fun ⟨m, r⟩ => ⟨not_take m, r⟩) (fun z => z), refsBL_is c h2⟩
  | .lst ds, _, c, h => by
    rw [refsB] at c
    rw [Is] at h ⊢
    obtain ⟨a, vs, rfl, m, h1, h2⟩ := h
    exact ⟨a, vs, rfl, not_take m, h1, refsBL_is c h2⟩
  | .wtu ds, _, c, h => by
    rw [refsB] at c
    rw [Is] at h ⊢
    obtain ⟨a, vs, rfl, m, h1, h2⟩ := h
    exact ⟨a, vs, rfl, not_take m, h1, refsBL_is c h2⟩
  | .lsx ds, _, c, h => by
    rw [refsB] at c
    rw [Is] at h ⊢
    obtain ⟨a, vs, rfl, m, h1, h2⟩ := h
    exact ⟨a, vs, rfl, ⟨not_take m.1, m.2⟩, h1, refsBL_is c h2⟩
  | .scr _, _, _, h => by
    rw [Is] at h ⊢
    obtain ⟨a, rfl, h1⟩ := h
    exact ⟨a, rfl, h1.imp (fun ⟨m, r⟩ => ⟨not_take m, r⟩) (fun z => z)⟩
  | .edc, _, _, h => by
    rw [Is] at h ⊢
    obtain ⟨a, rfl, m, h1⟩ := h
    exact ⟨a, rfl, not_take m, h1⟩
  | .fn _, _, _, h => by rw [Is] at h ⊢; exact h
theorem refsBL_is : ∀ {ds : List D} {vs : List V}, refsBL n ds = true → IsL K ρ H ds vs → IsL K (ρ.take n) H ds vs
  | [], _, _, h => by rw [IsL] at h ⊢; exact h
  | d :: ds, _, c, h => by
    rw [refsBL, Bool.and_eq_true] at c
    rw [IsL] at h ⊢
    obtain ⟨v, r, rfl, h1, h2⟩ := h
    exact ⟨v, r, rfl, refsB_is c.1 h1, refsBL_is c.2 h2⟩
end
theorem refsKV_is : ∀ {kvs : List (D × D)} {ks : List (Key × V)}, refsKV n kvs = true → IsKV K ρ H kvs ks → IsKV K (ρ.take n) H kvs ks
  | [], _, _, h => h
  | (k, d) :: r, _, c, h => by
    rw [refsKV, Bool.and_eq_true] at c
    obtain ⟨q, v, t, rfl, h1, h2, h3⟩ := h
    exact ⟨q, v, t, rfl, h1, refsB_is c.1 h2, refsKV_is c.2 h3⟩
theorem refsFs_is : ∀ {fs : List (Str × D)} {vs : List (Str × V)}, refsFs n fs = true → IsFs K ρ H fs vs → IsFs K (ρ.take n) H fs vs
  | [], _, _, h => h
  | (k, d) :: r, _, c, h => by
    rw [refsFs, Bool.and_eq_true] at c
    obtain ⟨v, t, rfl, h2, h3⟩ := h
    exact ⟨v, t, rfl, refsB_is c.1 h2, refsFs_is c.2 h3⟩
theorem refsKN_is : ∀ {kvs : List (D × D)} {ks : List (NestedKey × Addr × V)}, refsKN n kvs = true → IsKN K ρ H kvs ks → IsKN K (ρ.take n) H kvs ks
  | [], _, _, h => h
  | (k, d) :: r, _, c, h => by
    rw [refsKN, Bool.and_eq_true, Bool.and_eq_true] at c
    obtain ⟨q, b, v, t, rfl, h1, h0, h2, h3⟩ := h
    exact ⟨q, b, v, t, rfl, h1, refsB_is c.1 h0, refsB_is c.2.1 h2, refsKN_is c.2.2 h3⟩
theorem cellB_is {a : Addr} {c : Cell} (h : cellB n c = true) (r : CellAt K ρ H a c) : CellAt K (ρ.take n) H a c := by
  cases c with
  | lst ds => obtain ⟨vs, h1, h2⟩ := r; exact ⟨vs, h1, refsBL_is h h2⟩
  | dct kvs => obtain ⟨vs, h1, h2⟩ := r; exact ⟨vs, h1, refsKV_is h h2⟩
  | ins C fs => obtain ⟨C, dx, vs, h0, h1, h2⟩ := r; exact ⟨C, dx, vs, h0, h1, refsFs_is h h2⟩
  | dcn kvs => obtain ⟨vs, h1, h2, h3⟩ := r; exact ⟨vs, h1, refsKN_is h h2, h3⟩
  | lkd kvs => obtain ⟨o, vs, h1, h2⟩ := r; exact ⟨o, vs, h1, refsKV_is h h2⟩
mutual
/-- what stands at ρ has no other refs -/
theorem is_refsB : ∀ {d : D} {v : V}, Is K ρ H d v → refsB ρ.length d = true
  | .non, _, _ => rfl
  | .bl _, _, _ => rfl
  | .int _, _, _ => rfl
  | .str _, _, _ => rfl
  | .adr _, _, _ => rfl
  | .ref l, _, h => by
    rw [Is] at h
    obtain ⟨a, h1, _⟩ := h
    rw [refsB, decide_eq_true_eq]
    exact (List.getElem?_eq_some_iff.mp h1).1
  | .tup ds, _, h => by
    rw [Is] at h
    obtain ⟨_, _, _, _, h2⟩ := h
    rw [refsB]; exact isL_refsB h2
  | .lst ds, _, h => by
    rw [Is] at h
    obtain ⟨_, _, _, _, _, h2⟩ := h
    rw [refsB]; exact isL_refsB h2
  | .wtu ds, _, h => by
    rw [Is] at h
    obtain ⟨_, _, _, _, _, h2⟩ := h
    rw [refsB]; exact isL_refsB h2
  | .lsx ds, _, h => by
    rw [Is] at h
    obtain ⟨_, _, _, _, _, h2⟩ := h
    rw [refsB]; exact isL_refsB h2
  | .scr _, _, _ => rfl
  | .edc, _, _ => rfl
  | .fn _, _, _ => rfl
theorem isL_refsB : ∀ {ds : List D} {vs : List V}, IsL K ρ H ds vs → refsBL ρ.length ds = true
  | [], _, _ => rfl
  | d :: ds, _, h => by
    rw [IsL] at h
    obtain ⟨_, _, _, h1, h2⟩ := h
    rw [refsBL, is_refsB h1, isL_refsB h2]; rfl
end
theorem isKV_refsB : ∀ {ds : List (D × D)} {vs : List (Key × V)}, IsKV K ρ H ds vs → refsKV ρ.length ds = true
  | [], _, _ => rfl
  | (_, _) :: ds, _, ⟨_, _, _, _, _, h1, h2⟩ => by rw [refsKV, is_refsB h1, isKV_refsB h2]; rfl
theorem isFs_refsB : ∀ {ds : List (Str × D)} {vs : List (Str × V)}, IsFs K ρ H ds vs → refsFs ρ.length ds = true
  | [], _, _ => rfl
  | (_, _) :: ds, _, ⟨_, _, _, h1, h2⟩ => by rw [refsFs, is_refsB h1, isFs_refsB h2]; rfl
theorem isKN_refsB : ∀ {ds : List (D × D)} {vs : List (NestedKey × Addr × V)}, IsKN K ρ H ds vs → refsKN ρ.length ds = true
  | [], _, _ => rfl
  | (_, _) :: ds, _, ⟨_, _, _, _, _, _, h0, h1, h2⟩ => by rw [refsKN, is_refsB h0, is_refsB h1, isKN_refsB h2]; rfl
theorem cellAt_refsB {a : Addr} {c : Cell} (r : CellAt K ρ H a c) : cellB ρ.length c = true := by
  cases c with
  | lst ds => obtain ⟨vs, h1, h2⟩ := r; exact isL_refsB h2
  | dct kvs => obtain ⟨vs, h1, h2⟩ := r; exact isKV_refsB h2
  | ins C fs => obtain ⟨C, dx, vs, h0, h1, h2⟩ := r; exact isFs_refsB h2
  | dcn kvs => obtain ⟨vs, h1, h2, h3⟩ := r; exact isKN_refsB h2
  | lkd kvs => obtain ⟨o, vs, h1, h2⟩ := r; exact isKV_refsB h2
theorem thawL_is {f : D → Option D} (hf : ∀ d d' v, f d = some d' → Is K ρ H d v → Is K (ρ.take n) H d' v) : ∀ {ds es : List D} {vs : List V}, thawL f ds = some es → IsL K ρ H ds vs → IsL K (ρ.take n) H es vs
  | [], es, vs, c, h => by rw [thawL] at c; cases c; rw [IsL] at h ⊢; exact h
  | d :: ds, es, vs, c, h => by
    rw [thawL] at c
    split at c
    · rename_i x xs q1 q2
      cases c
      rw [IsL] at h
      obtain ⟨v, r, rfl, h1, h2⟩ := h
      exact IsL.cons (hf _ _ _ q1 h1) (thawL_is hf q2 h2)
    · cases c
theorem thaw_is {S : Sto} (hd : Held K ρ H S) : ∀ {k : Nat} {d d' : D} {v : V}, thaw k n S d = some d' → Is K ρ H d v → Is K (ρ.take n) H d' v
  | 0, d, d', v, c, h => by
    rw [thaw] at c
    split at c
    · rename_i q; cases c; exact refsB_is q h
    · cases c
  | k + 1, d, d', v, c, h => by
    rw [thaw] at c
    split at c
    · rename_i q; cases c; exact refsB_is q h
    · rename_i q
      have ih : ∀ x x' v, thaw k n S x = some x' → Is K ρ H x v → Is K (ρ.take n) H x' v := fun x x' v a b => thaw_is hd a b
      cases d with
      | tup ds =>
        have c : (thawL (thaw k n S) ds).map D.tup = some d' := c
        rw [Option.map_eq_some_iff] at c
        obtain ⟨es, e, rfl⟩ := c
        rw [Is] at h ⊢
        obtain ⟨a, vs, rfl, h1, h2⟩ := h
        exact ⟨a, vs, rfl, h1.imp (fun ⟨m, r⟩ => ⟨not_take m, r⟩) (fun z => z), thawL_is ih e h2⟩
      | lst ds =>
        have c : (thawL (thaw k n S) ds).map D.lst = some d' := c
        rw [Option.map_eq_some_iff] at c
        obtain ⟨es, e, rfl⟩ := c
        rw [Is] at h ⊢
        obtain ⟨a, vs, rfl, m, h1, h2⟩ := h
        exact ⟨a, vs, rfl, not_take m, h1, thawL_is ih e h2⟩
      | ref l =>
        have hl : ¬ l < n := by
          intro z
          exact q (by rw [refsB, decide_eq_true_eq]; exact z)
        unfold thawN at c
        simp only at c
        split at c
        · rename_i xs hs
          rw [Option.map_eq_some_iff] at c
          obtain ⟨es, e, rfl⟩ := c
          obtain ⟨a, rfl, ha, vs, h1, h2⟩ := hd.at_ h hs
          rw [Is]
          refine ⟨a, vs, rfl, fun m => ?_, h1, thawL_is ih e h2⟩
          obtain ⟨j, hj, ej⟩ := List.getElem_of_mem m
          have hj2 : j < n ∧ j < ρ.length := by rw [List.length_take] at hj; omega
          rw [List.getElem_take] at ej
          obtain ⟨hl2, el⟩ := List.getElem?_eq_some_iff.mp ha
          have := (List.getElem_inj hd.nd (h₀ := hj2.2) (h₁ := hl2)).mp (ej.trans el.symm)
          omega
        · cases c
      | wtu _ => cases c
      | lsx _ => cases c
      | _ => exact absurd rfl q
theorem cutC_at : ∀ {S S' : List Cell} {l : Nat} {c : Cell}, cutC n S S' = true → S'[l]? = some c → S[l]? = some c ∨ cellB n c = true
  | [], [], l, c, _, e => by simp at e
  | [], _ :: _, _, _, h, _ => by cases h
  | _ :: _, [], _, _, h, _ => by cases h
  | x :: S, x' :: S', 0, c, h, e => by
    rw [cutC, Bool.and_eq_true, Bool.or_eq_true, decide_eq_true_eq] at h
    simp at e
    subst e
    exact h.1.imp (fun z => by simp [z]) (fun z => z)
  | x :: S, x' :: S', l + 1, c, h, e => by
    rw [cutC, Bool.and_eq_true] at h
    simpa using cutC_at (l := l) h.2 (by simpa using e)
/-- the caller's cells alone -/
theorem Held.cut {ρ0 : List Addr} {H0 : Hp} {S0 S : Sto} (h0 : Held K ρ0 H0 S0) (h : Held K ρ H S) (e : Ext ρ0 H0 ρ H) (c : cutC S0.length S0 (S.take S0.length) = true) : ρ.take S0.length = ρ0 ∧ Held K ρ0 H (S.take S0.length) ∧ Ext ρ0 H0 ρ0 H := by
  have et : ρ.take S0.length = ρ0 := by
    obtain ⟨t, ht⟩ := e.pre
    rw [← ht, ← h0.len, List.take_left']
    rfl
  refine ⟨et, ⟨?_, h0.nd, fun l ce a h1 h2 => ?_⟩, List.prefix_refl _, fun a o m q => ⟨m, (e.keep a o m q).2⟩⟩
  · rw [List.length_take, ← et, List.length_take, h.len]
  · have hl : l < S0.length := by
      have := (List.getElem?_eq_some_iff.mp h2).1
      rw [h0.len] at this; exact this
    have h1' : S[l]? = some ce := by rw [List.getElem?_take_of_lt hl] at h1; exact h1
    have ca := h.cell l ce a h1' (e.get h2)
    have cb : cellB S0.length ce = true := by
      rcases cutC_at c h1 with q | q
      · have := cellAt_refsB (h0.cell l ce a q h2)
        rw [h0.len] at this
        exact this
      · exact q
    have := cellB_is cb ca
    rw [et] at this
    exact this
end
def cutO (S0 : Sto) (o : OutS) : Out D := match o with
  | .rt d S => need (thaw 3 S0.length S d) fun d' => guardO (cutC S0.length S0 (S.take S0.length)) (.ok d' (S.take S0.length))
  | .nx _ S => guardO (cutC S0.length S0 (S.take S0.length)) (.ok .non (S.take S0.length))
  | .ex x _ S => guardO (cutC S0.length S0 (S.take S0.length) && refsFs S0.length x.fs) (.ex x (S.take S0.length))
  | _ => .no
/-- all cells stay -/
def allO (o : OutS) : Out D := match o with
  | .rt d S => .ok d S
  | .nx _ S => .ok .non S
  | .ex x _ S => .ex x S
  | _ => .no
def startL (n : Nat) (ds : List D) : Loc := ds.map some ++ List.replicate (n - ds.length) none
def mDef (n p : Nat) (ms : SD) : List D → Sto → Out D := fun ds S => if ds.length = p then cutO S (ms (startL n ds) S) else .no
def mDefU (n p : Nat) (ms : SD) : List D → Sto → Out D := fun ds S => if ds.length = p then allO (ms (startL n ds) S) else .no
theorem start_rel {K : PySem.W.Frag} {ρ : List Addr} {H : Hp} {N : List Str} {ds : List D} {vs : List V} (h : IsL K ρ H ds vs) : RelL K ρ (L2.start N vs) H (startL N.length ds) := by
  have hl := h.length
  refine ⟨by simp [L2.start, startL, hl], fun i d e => ?_⟩
  unfold startL at e
  unfold L2.start
  by_cases hi : i < ds.length
  · rw [List.getElem?_append_left (by simpa using hi), List.getElem?_map] at e
    rw [List.getElem?_append_left (by simpa [hl] using hi), List.getElem?_map]
    cases q : ds[i]? with
    | none => rw [q] at e; cases e
    | some d' =>
      rw [q] at e
      cases e
      obtain ⟨v, h1, h2⟩ := h.get q
      exact ⟨v, by rw [h1]; rfl, h2⟩
  · rw [List.getElem?_append_right (by simpa using hi), List.getElem?_replicate] at e
    split at e <;> cases e
/-- what a def promises -/
def spM (K : PySem.W.Frag) (p : Nat) (m : List D → Sto → Out D) : Sp := fun vs H Q E => ∃ ρ ds S, ds.length = p ∧ IsL K ρ H ds vs ∧ Held K ρ H S ∧ Good K (fun cls d _ H => E cls d H) [] (Is K) Q ρ H (m ds S)
theorem IsX.cut {K : PySem.W.Frag} {ρ : List Addr} {H : Hp} {n : Nat} {x : Exn} {cls : Value} {dx : Option Addr} (h : IsX K ρ H x cls dx) (c : refsFs n x.fs = true) : IsX K (ρ.take n) H x cls dx :=
  ⟨h.1, h.2.imp (fun z => z) fun ⟨ne, d, vs, h1, h2, h3⟩ => ⟨ne, d, vs, h1, h2, refsFs_is c h3⟩⟩
theorem cut_good {K : PySem.W.Frag} {E : XK} {Q : VK} {ρ : List Addr} {H : Hp} {S : Sto} {o : OutS} (hd : Held K ρ H S) (g : Good K (fun cls d _ H => E cls d H) [] (Is K) Q ρ H (cutO S o)) :
    GoodS K (fun cls d _ H => E cls d H) { nx := fun _ H' => Q .non H', rt := Q } ρ H o := by
  cases o with
  | rt d S' =>
    intro ρ' H' v hd' e' r'
    obtain ⟨d', h1, g⟩ := Good.need g
    obtain ⟨c, g⟩ := Good.guard g
    obtain ⟨q1, q2, q3⟩ := hd.cut hd' e' c
    have := thaw_is hd' h1 r'
    rw [q1] at this
    exact g ρ H' v q2 q3 this
  | nx l S' =>
    intro ρ' H' v hd' e' r'
    obtain ⟨c, g⟩ := Good.guard g
    obtain ⟨q1, q2, q3⟩ := hd.cut hd' e' c
    exact g ρ H' .non q2 q3 (by rw [Is])
  | ex x l S' =>
    intro ρ' H' σ' cls dx hd' e' rl' ix
    obtain ⟨c, g⟩ := Good.guard g
    rw [Bool.and_eq_true] at c
    obtain ⟨q1, q2, q3⟩ := hd.cut hd' e' c.1
    have := ix.cut c.2
    rw [q1] at this
    exact g ρ H' cls dx q2 q3 this
  | bk l S' => exact g.elim
  | ct l S' => exact g.elim
  | no => exact g.elim
theorem all_good {K : PySem.W.Frag} {E : XK} {Q : VK} {ρ : List Addr} {H : Hp} {o : OutS} (g : Good K (fun cls d _ H => E cls d H) [] (Is K) Q ρ H (allO o)) :
    GoodS K (fun cls d _ H => E cls d H) { nx := fun _ H' => Q .non H', rt := Q } ρ H o := by
  cases o with
  | rt d S' => exact g
  | nx l S' => exact fun ρ' H' v hd' e' r' => g ρ' H' .non hd' e' (by rw [Is])
  | ex x l S' => exact fun ρ' H' σ' cls dx hd' e' rl' ix => g ρ' H' cls dx hd' e' ix
  | bk l S' => exact g.elim
  | ct l S' => exact g.elim
  | no => exact g.elim

/-! ### a def's promise, where nothing is guarded -/
structure FnG (P : Program) (w : World) (K : PySem.W.Frag) (mg : Str → Option Value) (base : Heap) (k : Nat) (f : Addr) (fd : FuncData) (ps : List Str) (m : List D → Sto → Out D) : Prop where
  run : ∀ (A : Around) (outer : List Env) (s : Shared) (H : Hp) (args : Args) (us : List Value) (vs : List V) (Q : VK) (E : XK), Room k A → A.guards = some [] → Env0 P w K mg base A outer s H → BindsTo s fd args (ps.zip us) → Vals vs us → spM K ps.length m vs H Q E →
    codeAny (model P w) A (.call (.ref f) args) (CR (L2.CX P w) outer P w H s Q E) s
theorem FnG.mono {P : Program} {w : World} {K : PySem.W.Frag} {mg : Str → Option Value} {base : Heap} {j k : Nat} {f : Addr} {fd : FuncData} {ps : List Str} {m : List D → Sto → Out D} (F : FnG P w K mg base j f fd ps m) (h : j ≤ k) : FnG P w K mg base k f fd ps m :=
  ⟨fun A outer s H args us vs Q E hr => F.run A outer s H args us vs Q E (hr.mono h)⟩
theorem FnG.eq {P : Program} {w : World} {K : PySem.W.Frag} {mg : Str → Option Value} {base : Heap} {k : Nat} {f : Addr} {fd : FuncData} {ps : List Str} {m m' : List D → Sto → Out D} (F : FnG P w K mg base k f fd ps m) (h : m = m') : FnG P w K mg base k f fd ps m' := h ▸ F
/-- the context of a def's body -/
abbrev cxG (P : Program) (w : World) (K : PySem.W.Frag) (mg : Str → Option Value) (base : Heap) (N : List Str) (qual : Str) (st : Stmt) (f : Addr) (cdv : Value) (A : Around) (outer : List Env) (s : Shared) (H : Hp) (E : XK) : Cx :=
  cxOf (L2.CX P w) P w K mg base N qual (defScope st) f cdv A outer s H E
abbrev WK (E : XK) : WX := fun cls d _ H => E cls d H
theorem takesG {P : Program} {w : World} {K : PySem.W.Frag} {mg : Str → Option Value} {base : Heap} {N : List Str} {qual : Str} {st : Stmt} {f : Addr} {cdv : Value} {A : Around} {outer : List Env} {s : Shared} {H : Hp} {E : XK} :
    Takes (cxG P w K mg base N qual st f cdv A outer s H E) (WK E) := takes_of rfl rfl rfl rfl
/-- what holds around a body -/
structure Ard (k : Nat) (A : Around) : Prop where
  room : Room k A
  grd : A.guards = some []
theorem Ard.mono {j k : Nat} {A : Around} (r : Ard k A) (h : j ≤ k) : Ard j A := ⟨r.room.mono h, r.grd⟩
theorem fnG {P : Program} {w : World} {K : PySem.W.Frag} {mg : Str → Option Value} {base : Heap} {k : Nat} {x qual : Str} {st : Stmt} {f : Addr} {fd : FuncData} {N ps : List Str} {m : List D → Sto → Out D} {ms : SD}
    (F : Fun K x qual st f fd) (S : FnScope N ps (defScope st)) (hm : m = mDef N.length ps.length ms ∨ m = mDefU N.length ps.length ms)
    (hb : ∀ (cdv : Value) (A : Around) (outer : List Env) (s : Shared) (H : Hp) (E : XK), Ard k (cxG P w K mg base N qual st f cdv A outer s H E).A →
      PSs (cxG P w K mg base N qual st f cdv A outer s H E) (defBody st) (tS K (WK E) ms)) : FnG P w K mg base (k + 1) f fd ps m := by
  obtain ⟨oc, od, kV, doc, pm, an, cdv, ct, osl, rfl, lk, hcd⟩ := F.ex
  constructor
  intro A outer s H args us vs Q E hr hgd e0 hbd r ⟨ρ, ds, S0, hlen, his, hhd, g⟩
  have hvl : vs.length = ps.length := his.length.trans hlen
  have inK : K.In s.heap := e0.mod.kin.keeps fun _ _ q => (e0.bs _ _ q).1
  have noLim : s.heap.NoLimit := e0.mod.nolimit.keeps fun _ _ q => (e0.bs _ _ q).1
  have kinds : ∀ y ∈ ps.zip us, (defScope st).names.lookup y.1 = some .local ∨ ((defScope st).names.lookup y.1 = some .cell ∧ ((cellsFrom (s.heap.objs.size + 1) (defScope st).names []).lookup y.1).isSome = true) := by
    rintro ⟨nm, va⟩ hy
    rcases S.par nm (List.of_mem_zip hy).1 with z | z
    · exact .inl z
    · exact .inr ⟨z, PySem.W.cellsFrom_some _ _ _ (.inl z)⟩
  refine codeAny_call_function hr.depth (inK _ _ lk) rfl S.co S.gen rfl (PySem.W.codeRec_of inK hcd) (hbd _ _ _ _ ?_)
  refine wpAny_newFunctionEnv_cells S.kind kinds fun en hen s1 hx => ?_
  subst hen
  refine ⟨noLim.keeps hx.toInCall.keep, codeAny_func ?_⟩
  have inv := inv_start (CX := L2.CX P w) (E := E) (N := N) S hr.hd e0 hvl r hx
  have body := hb cdv A outer s H E ⟨hr.deeper _, hgd⟩
  have gs : GoodS K (WK E) { nx := fun _ H' => Q .non H', rt := Q } ρ H (ms (startL N.length ds) S0) := by
    rcases hm with rfl | rfl
    · have g' : Good K (WK E) [] (Is K) Q ρ H (if ds.length = ps.length then cutO S0 (ms (startL N.length ds) S0) else .no) := g
      rw [if_pos hlen] at g'
      exact cut_good hhd g'
    · have g' : Good K (WK E) [] (Is K) Q ρ H (if ds.length = ps.length then allO (ms (startL N.length ds) S0) else .no) := g
      rw [if_pos hlen] at g'
      exact all_good g'
  refine wpAny_mono (body.run [] s1 (L2.start N vs) H { nx := fun _ H' => Q .non H', rt := Q } inv ⟨ρ, _, S0, start_rel his, hhd, gs⟩) (fun fl s' hs => ?_) fun _ _ z => z
  have done : ∀ {σ' : St} {H' : Hp} {v : V} {u : Value}, Inv (cxG P w K mg base N qual st f cdv A outer s H E) [] σ' H' s' → RelV v u → Q v H' → CE outer P w H s Q u s' :=
    fun J rv q => ⟨_, _, J.os, J.bare, J.base, J.hok, rv, q⟩
  cases fl with
  | next => obtain ⟨_, _, J, q⟩ := hs; exact done (v := V.non) (u := Value.none) J rfl q
  | ret u => obtain ⟨_, _, _, J, rv, q⟩ := hs; exact done J rv q
  | brk => exact hs.choose_spec.choose_spec.2.elim
  | cont => exact hs.choose_spec.choose_spec.2.elim

/-! ### the call -/
section
variable {X : Cx} {W : WX} {k : Nat} {f : Addr} {fd : FuncData} {ps : List Str} {m : List D → Sto → Out D} {x : Str} {p pos : Pos} {e : Expr} {es : List Expr} {ml : AD}
def mFn (m : List D → Sto → Out D) (ml : AD) : ED := fun loc S => (ml loc S).bind fun ds S1 => m ds S1
theorem runG {pins : List (Addr × Obj)} {σ : St} {H : Hp} {s : Shared} {Q : VK} {us : List Value} {vs : List V} (F : FnG X.prog X.w X.K X.mg X.base k f fd ps m) (hr : Ard k X.A) (hb : Binds X.K fd ps []) (tk : Takes X W)
    (I : Inv X pins σ H s) (r : Vals vs us) (h : spM X.K ps.length m vs H Q (WE W σ)) : wpAny (model X.prog X.w) X.A (call (.ref f) us) (EP X pins σ Q) X.xe s := by
  have hl : us.length = ps.length := by
    obtain ⟨_, _, _, h1, h2, _⟩ := h
    exact (r.length.symm.trans h2.length).trans h1
  have b := hb s us I.kIn ((congrArg List.length (List.append_nil us)).trans hl)
  rw [List.append_nil] at b
  refine wpAny_call (codeAny_mono (F.run X.A X.stack s H ⟨us, []⟩ us vs Q (WE W σ) hr.room hr.grd I.env0 b r h) fun r s' hq => ?_)
  match r, hq with
  | .error e, hq => exact passAt tk σ pins H s e s' I hq
  | .ok (.ret u), hq => exact I.after hq
theorem fn_md {sp : St → List V → Hp → VK → Prop} {σ : St} {H : Hp} {Q : VK} {K : PySem.W.Frag} {n : Nat} (h : tE K W (mFn (fun ds S => if ds.length = n then m ds S else .no) ml) σ H Q) : tCallS (spM K n m) (WE W) (tA K W ml) σ H Q := by
  obtain ⟨ρ, loc, S, rl, hd, g⟩ := h
  refine ⟨ρ, loc, S, rl, hd, Good.bind g fun ds S1 ρ1 H1 vs hd1 e1 r1 g1 => ?_⟩
  have g1 : Good K W σ (Is K) Q ρ1 H1 (if ds.length = n then m ds S1 else .no) := g1
  by_cases hl : ds.length = n
  · rw [if_pos hl] at g1
    refine ⟨ρ1, ds, S1, hl, r1, hd1, ?_⟩
    cases ho : m ds S1 with
    | ok a S2 => rw [ho] at g1; exact g1
    | ex a S2 => rw [ho] at g1; exact g1
    | no => rw [ho] at g1; exact g1
  · rw [if_neg hl] at g1; exact g1.elim
theorem mDef_len {n q : Nat} {ms : SD} : (fun ds S => if ds.length = q then mDef n q ms ds S else .no) = mDef n q ms := by
  funext ds S
  unfold mDef
  by_cases h : ds.length = q
  · simp [h]
  · simp [h]
theorem mDefU_len {n q : Nat} {ms : SD} : (fun ds S => if ds.length = q then mDefU n q ms ds S else .no) = mDefU n q ms := by
  funext ds S
  unfold mDefU
  by_cases h : ds.length = q
  · simp [h]
  · simp [h]
/-- a def's function answers only at its own number of arguments -/
def Len (q : Nat) (m : List D → Sto → Out D) : Prop := (fun ds S => if ds.length = q then m ds S else .no) = m
theorem pm_call {hdq : Len ps.length m} (F : FnG X.prog X.w X.K X.mg X.base k f fd ps m) (hr : Ard k X.A) (tk : Takes X W) (hg : Gl X x) (hm : X.mg x = some (.ref f)) (hk : PySem.W.keepIn X.K (.ref f) = true) (hb : Binds X.K fd ps [])
    (ha : PA X (e :: es) (tA X.K W ml)) (hdb : (x == ("__debug__" : Str)) = false := by decide) (he : starEach (e :: es) X.env = (false, eval e X.env) :: starEach es X.env := by rfl) (hpl : (backTo pos (starEach es X.env)).any (·.1) = false := by rfl) :
    PE X (.Call (.Name x p) (e :: es) [] pos) (tE X.K W (mFn m ml)) := by
  have base : PE X (.Call (.Name x p) (e :: es) [] pos) (tCallS (spM X.K ps.length m) (WE W) (tA X.K W ml)) := by
    constructor
    intro pins s σ H Q I h
    refine wpAny_Call_Name_kw (ld_glob I hg hm ?_ hdb)
    refine PySem.W.callWith_K (h₀ := X.base) I.ok.mod.kin hk (thn (ha.run pos pins s σ H _ I h) fun us s1 ⟨vs, H1, I1, r, q⟩ => ⟨I1.kIn, runG F hr hb tk I1 r q⟩) he hpl
  refine base.md fun σ H Q h => ?_
  have h : tE X.K W (mFn m ml) σ H Q := h
  rw [← hdq] at h
  exact fn_md (sp := fun _ _ _ _ => True) h
theorem pm_call0 {hdq : Len ps.length m} (F : FnG X.prog X.w X.K X.mg X.base k f fd ps m) (hr : Ard k X.A) (tk : Takes X W) (hg : Gl X x) (hm : X.mg x = some (.ref f)) (hk : PySem.W.keepIn X.K (.ref f) = true) (hb : Binds X.K fd ps [])
    (hdb : (x == ("__debug__" : Str)) = false := by decide) : PE X (.Call (.Name x p) [] [] pos) (tE X.K W (mFn m mNil)) := by
  have base : PE X (.Call (.Name x p) [] [] pos) (tCallS (spM X.K ps.length m) (WE W) tNil) := by
    constructor
    intro pins s σ H Q I h
    refine wpAny_Call_Name_kw (ld_glob I hg hm ?_ hdb)
    exact PySem.W.callWith_K0 I.kIn hk (runG (us := []) F hr hb tk I .nil h)
  refine base.md fun σ H Q h => ?_
  have h : tE X.K W (mFn m mNil) σ H Q := h
  rw [← hdq] at h
  obtain ⟨ρ, loc, S, rl, hd, g⟩ := h
  have g : Good X.K W σ (Is X.K) Q ρ H (if ([] : List D).length = ps.length then m [] S else .no) := g
  by_cases hl : ([] : List D).length = ps.length
  · rw [if_pos hl] at g
    refine ⟨ρ, [], S, hl, IsL.nil, hd, ?_⟩
    cases ho : m [] S with
    | ok a S2 => rw [ho] at g; exact g
    | ex a S2 => rw [ho] at g; exact g
    | no => rw [ho] at g; exact g
  · rw [if_neg hl] at g; exact g.elim
end
end Md

set_option Elab.async false
set_option linter.all false
set_option maxRecDepth 100000
/-! Md9: the head. -/
namespace Md
open PySem PySem.Spec PyProof.Rows L2
section
variable {P : Program} {w : World} {K : PySem.W.Frag} {mg : Str → Option Value} {base : Heap}
/-- a def of the module -/
structure FunAt (K : PySem.W.Frag) (mg : Str → Option Value) (x : Str) (st : Stmt) (ps : List Str) : Prop where
  ex : ∃ (f : Addr) (fd : FuncData), Fun K x x st f fd ∧ mg x = some (.ref f) ∧ Binds K fd ps []
structure DefAt (P : Program) (w : World) (K : PySem.W.Frag) (mg : Str → Option Value) (base : Heap) (x : Str) (k : Nat) (ps : List Str) (m : List D → Sto → Out D) : Prop where
  ex : ∃ (f : Addr) (fd : FuncData), FnG P w K mg base k f fd ps m ∧ mg x = some (.ref f) ∧ PySem.W.keepIn K (.ref f) = true ∧ Binds K fd ps [] ∧ ∃ oc od osl, K.lookup f = some ⟨oc, od, .func fd, osl⟩
  len : Len ps.length m
theorem _root_.L2.Fun.lk {K : PySem.W.Frag} {x q : Str} {st : Stmt} {f : Addr} {fd : FuncData} (F : Fun K x q st f fd) : ∃ oc od osl, K.lookup f = some ⟨oc, od, .func fd, osl⟩ := by
  obtain ⟨oc, od, kV, doc, pm, an, cdv, ct, osl, rfl, lk, hcd⟩ := F.ex
  exact ⟨_, _, _, lk⟩
theorem defAt {k : Nat} {x : Str} {st : Stmt} {N ps : List Str} {ms : SD} {m : List D → Sto → Out D} (F : FunAt K mg x st ps) (S : FnScope N ps (defScope st)) (hm : m = mDef N.length ps.length ms ∨ m = mDefU N.length ps.length ms)
    (hb : ∀ (f : Addr) (cdv : Value) (A : Around) (outer : List Env) (s : Shared) (H : Hp) (E : XK), Ard k (cxG P w K mg base N x st f cdv A outer s H E).A →
      PSs (cxG P w K mg base N x st f cdv A outer s H E) (defBody st) (tS K (WK E) ms)) : DefAt P w K mg base x (k + 1) ps m := by
  obtain ⟨f, fd, F, h1, h2⟩ := F.ex
  refine ⟨⟨f, fd, fnG F S hm (hb f), h1, F.kp, h2, F.lk⟩, ?_⟩
  rcases hm with rfl | rfl
  · exact mDef_len
  · exact mDefU_len
end
section
variable {X : Cx} {W : WX} {k j : Nat} {ps : List Str} {m : List D → Sto → Out D} {x : Str} {p pos : Pos} {e : Expr} {es : List Expr} {ml : AD}
theorem pm_def (F : DefAt X.prog X.w X.K X.mg X.base x k ps m) (hr : Ard j X.A) (hk : k ≤ j) (tk : Takes X W) (hg : Gl X x)
    (ha : PA X (e :: es) (tA X.K W ml)) (hdb : (x == ("__debug__" : Str)) = false := by decide) (he : starEach (e :: es) X.env = (false, eval e X.env) :: starEach es X.env := by rfl) (hpl : (backTo pos (starEach es X.env)).any (·.1) = false := by rfl) :
    PE X (.Call (.Name x p) (e :: es) [] pos) (tE X.K W (mFn m ml)) := by
  obtain ⟨f, fd, F1, h1, h2, h3, _⟩ := F.ex
  exact pm_call (hdq := F.len) F1 (hr.mono hk) tk hg h1 h2 h3 ha hdb he hpl
theorem pm_def0 (F : DefAt X.prog X.w X.K X.mg X.base x k ps m) (hr : Ard j X.A) (hk : k ≤ j) (tk : Takes X W) (hg : Gl X x) (hdb : (x == ("__debug__" : Str)) = false := by decide) : PE X (.Call (.Name x p) [] [] pos) (tE X.K W (mFn m mNil)) := by
  obtain ⟨f, fd, F1, h1, h2, h3, _⟩ := F.ex
  exact pm_call0 (hdq := F.len) F1 (hr.mono hk) tk hg h1 h2 h3 hdb
end

/-! ### the law -/
def Yes (o : Out D) : Prop := ∃ S, o = .ok (.bl true) S
theorem law_callG {P : Program} {w : World} {K : PySem.W.Frag} {mg mb : Str → Option Value} {k : Nat} {fa a : Addr} {fd : FuncData} {x : Str} {m : List D → Sto → Out D} {s₁ : Shared} {vs : List Value} {ns : List Int}
    (kin : K.In s₁.heap) (gl : s₁.heap.Ns mainGlobals mg) (bl : s₁.heap.Ns builtinsNs mb) (blt : ∀ x : Str, x ≠ "__name__" → mb x = bootBuiltins x) (lim : s₁.heap.NoLimit) (nog : s₁.gens = #[])
    (ha : s₁.heap.get? a = some { cls := .type "list", data := .seq vs.toArray }) (hi : IntsAre vs ns) (hl : ns.length ≤ sizeLine) (hr : Room k callerA)
    (F : ∀ base : Heap, K.In base → base.Ns mainGlobals mg → FnG P w K mg base k fa fd [x] m) (hbind : ∀ (s : Shared) (u : Value), BindsTo s fd ⟨[u], []⟩ [(x, u)]) (hm : Yes (m [.scr ns] [])) :
    codeAny (model P w) callerA (.call (.ref fa) ⟨[.ref a], []⟩) (fun r s' => r = .ok (.ret (.bool true)) ∧ OldK s₁.heap s'.heap ∧ s'.os = s₁.os ∧ AllBare s'.gens) s₁ := by
  obtain ⟨Sm, hm⟩ := hm
  have vint := vals_ints hi
  have lenV := hi.length
  -- the two ways in which the script may be known
  suffices core : ∀ H : Hp, Only H → SqL K H a (ns.map V.int) → HOk P w H s₁.heap → (∀ b, H b ≠ none → b = a) → (H a ≠ none → K.lookup a = none) →
      codeAny (model P w) callerA (.call (.ref fa) ⟨[.ref a], []⟩) (fun r s' => r = .ok (.ret (.bool true)) ∧ OldK s₁.heap s'.heap ∧ s'.os = s₁.os ∧ AllBare s'.gens) s₁ by
    cases hk : K.lookup a with
    | some o =>
      have e := kin a o hk
      rw [ha] at e
      cases e
      exact core (fun _ => none) (fun _ => .inl rfl) (.inr ⟨_, vs.toArray, _, hk, rfl, rfl, rfl, (by rw [List.size_toArray, lenV]; exact hl), by simpa using vint⟩) (fun _ _ z => by cases (show (none : Option HO) = some _ from z)) (fun _ z => absurd rfl z) fun z => absurd rfl z
    | none =>
      let sc : HO := .frz { cls := .type "list", data := .seq vs.toArray } (.lst (ns.map V.int))
      have at_a : (fun b => if b = a then some sc else none : Hp) a = some sc := if_pos rfl
      have off : ∀ b, b ≠ a → (fun b => if b = a then some sc else none : Hp) b = none := fun b hb => if_neg hb
      refine core (fun b => if b = a then some sc else none) (fun b => ?_) (.inl (.inr ⟨_, at_a⟩)) (fun b u z => ?_) (fun b z => ?_) fun _ => hk
      · by_cases hb : b = a
        · exact .inr ⟨_, _, by rw [hb]; exact at_a⟩
        · exact .inl (off b hb)
      · by_cases hb : b = a
        · subst hb
          rw [at_a] at z
          cases z
          exact ⟨ha, (by rw [List.length_map]; exact hl), vs, _, vint, ha⟩
        · rw [off b hb] at z; cases z
      · by_cases hb : b = a
        · exact hb
        · exact absurd (off b hb) z
  intro H hO hS hok hA hK
  have atA : ∀ {b : Addr} {u : HO}, H b = some u → b = a := fun {b u} q => hA b (by rw [q]; simp)
  have below : ∀ {b : Addr} {o : Obj}, s₁.heap.get? b = some o → H b = none → (hidT s₁.heap H).get? b = some o := fun e n => hidT_get e n
  have dicts : ∀ {b : Addr} {o : Obj} {es : Array DictEntry} {ep : Nat}, s₁.heap.get? b = some o → o.data = .dict es ep → H b = none := by
    intro b o es ep e d
    cases q : H b with
    | none => rfl
    | some u =>
      obtain rfl := atA q
      rw [ha] at e
      cases e
      cases (show Data.seq vs.toArray _ = Data.dict es ep from d)
  have nsB : ∀ {b : Addr} {mp : Str → Option Value}, s₁.heap.Ns b mp → (hidT s₁.heap H).Ns b mp := fun ⟨o, es, ep, e, d, r⟩ => ⟨o, es, ep, below e (dicts e d), d, r⟩
  have kinB : K.In (hidT s₁.heap H) := by
    intro b o e
    refine below (kin b o e) ?_
    cases q : H b with
    | none => rfl
    | some u =>
      obtain rfl := atA q
      rw [hK (by rw [q]; simp)] at e
      cases e
  have md : Mod K mg (hidT s₁.heap H) := ⟨kinB, nsB gl, ⟨mb, nsB bl, blt⟩, let ⟨mc, z1, z2⟩ := lim; ⟨mc, nsB z1, z2⟩⟩
  have e0 : Env0 P w K mg (hidT s₁.heap H) callerA [] s₁ H := ⟨rfl, md, fun _ _ e => of_hidT e, Nat.le_of_eq (hidT_size _ _), trivial, (fun b hb => absurd (show b ∈ ([] : List Addr) from hb) (by simp)), hok, .of_eq nog⟩
  have is0 : Is K [] H (.scr ns) (.ref a) := by
    rw [Is]
    exact ⟨a, rfl, hS.imp (fun z => ⟨by simp, z⟩) fun z => z⟩
  have hd0 : Held K [] H [] := ⟨rfl, List.nodup_nil, fun l c b h1 _ => by simp at h1⟩
  have run := (F _ kinB (nsB gl)).run callerA [] s₁ H ⟨[.ref a], []⟩ [.ref a] [.ref a] (fun v _ => v = .bl true) (fun _ _ _ => False) hr rfl e0 (hbind s₁ (.ref a)) (.cons rfl .nil)
    ⟨[], [.scr ns], [], rfl, IsL.cons is0 IsL.nil, hd0, by rw [hm]; intro ρ' H' v _ _ r; rw [Is] at r; exact r⟩
  refine codeAny_mono run fun r s' h => ?_
  match r, h with
  | .error e, h =>
    obtain ⟨_, _, _, _, _, _, _, _, _, _, _, _, z⟩ := h
    exact z.elim
  | .ok (.ret u), h =>
    obtain ⟨v, H', os, bare, un, hok', r', q⟩ := h
    obtain rfl : v = .bl true := q
    obtain rfl : u = Value.bool true := r'
    refine ⟨rfl, OldK.of_keep fun b o e => ?_, os, bare⟩
    cases q : H b with
    | none => exact un.keep b o e q (fun z => absurd (show b ∈ ([] : List Addr) from z) (by simp)) (by simp)
    | some u =>
      rcases hO b with z | ⟨ob, xs, z⟩
      · rw [q] at z; cases z
      · obtain ⟨g1, _⟩ := hok b _ z
        obtain ⟨g2, _⟩ := hok' b _ (un.frzs b ob _ z)
        rw [e] at g1
        cases g1
        exact g2
theorem walkG {l : PySem.W.OpenLaw} {n k : Nat} {q : Program} {loose : List Str} {XP : (Str → Option Value) → Heap → Prop} {YP : World → Heap → Prop} {d : DefRec} {K : Params → PySem.W.Frag} {x : Str} {m : World → List D → Sto → Out D}
    (hn : l.most = some n) (hn2 : n ≤ sizeLine) (hdf : d.params.defaults = []) (hr : Room k callerA) (hY : ∀ (w : World) (h : Heap), YP w h → (K w.params).In h)
    (F : ∀ (w : World) (mg : Str → Option Value) (fa : Addr) (h : Heap), (K w.params).In h → h.Ns mainGlobals mg → mg d.name = some (.ref fa) →
      ∃ fd : FuncData, (∀ (s : Shared) (u : Value), BindsTo s fd ⟨[u], []⟩ [(x, u)]) ∧ ∀ base : Heap, (K w.params).In base → base.Ns mainGlobals mg → FnG l.prog w (K w.params) mg base k fa fd [x] (m w))
    (hm : ∀ (w : World) (ns : List Int), ns.length ≤ n → Yes (m w [.scr ns] [])) : PySem.W.WalkO q loose XP YP l.row.toRowW d [] (fun f vs => PySem.call f vs) := by
  refine Att.attach_call hn hdf fun w s₀ s₁ mg mb fa o pm cd doc a vs ns G Y ho hd hcd hmg hobj hints hlen hg => ?_
  have kin := hY w _ Y
  obtain ⟨fd, hb, hF⟩ := F w mg fa _ kin G.T.g hmg
  exact law_callG kin G.T.g G.T.b G.T.builtins G.T.nolimit hg hobj hints (Nat.le_trans hlen hn2) hr hF hb (hm w ns hlen)
end Md

set_option Elab.async false
set_option linter.all false
set_option maxRecDepth 100000
/-! Md10: more rules. -/
namespace Md
open PySem PySem.Spec L2
section
variable {k : Nat} {A : Around}
theorem Ard.u64 (h : Ard k A) : A.units + 64 < cLine := h.room.units
theorem Ard.u65 (h : Ard k A) : A.units + 65 < cLine := by have := h.room.un; omega
theorem Ard.u1 (h : Ard k A) : A.units + 1 < cLine := by have := h.room.un; omega
theorem Ard.u0 (h : Ard k A) : A.units < cLine := by have := h.room.un; omega
end
theorem boot_len : bootBuiltins "len" = some (.builtin "len") := by decide +kernel
theorem boot_abs : bootBuiltins "abs" = some (.builtin "abs") := by decide +kernel
theorem boot_max : bootBuiltins "max" = some (.builtin "max") := by decide +kernel
theorem boot_min : bootBuiltins "min" = some (.builtin "min") := by decide +kernel
theorem boot_repr : bootBuiltins "repr" = some (.builtin "repr") := by decide +kernel
theorem boot_sum : bootBuiltins "sum" = some (.builtin "sum") := by decide +kernel
theorem boot_any : bootBuiltins "any" = some (.builtin "any") := by decide +kernel
theorem boot_all : bootBuiltins "all" = some (.builtin "all") := by decide +kernel
theorem boot_sorted : bootBuiltins "sorted" = some (.builtin "sorted") := by decide +kernel
theorem boot_isinstance : bootBuiltins "isinstance" = some (.builtin "isinstance") := by decide +kernel
theorem boot_int : bootBuiltins "int" = some (.type "int") := by decide +kernel
theorem boot_bool : bootBuiltins "bool" = some (.type "bool") := by decide +kernel
theorem boot_str : bootBuiltins "str" = some (.type "str") := by decide +kernel
theorem boot_list : bootBuiltins "list" = some (.type "list") := by decide +kernel
theorem boot_tuple : bootBuiltins "tuple" = some (.type "tuple") := by decide +kernel
theorem boot_dict : bootBuiltins "dict" = some (.type "dict") := by decide +kernel
section
variable {X : Cx} {W : WX} {a b e : Expr} {ma mb mc me : ED} {ml : AD} {pos p p2 : Pos}
/-! ### o[i] = v -/
def fSet : D → D → D → Sto → Out Unit := fun o i v S => match o with
  | .ref l => match S[l]? with
    | some (.lst ds) => match i with
      | .int k => need (ixN ds.length k) fun j => .ok () (S.set l (.lst (ds.set j v)))
      | _ => .no
    | some (.dct kvs) => guardO ((keyD i).isSome && small kvs.length) (.ok () (S.set l (.dct (putD kvs i v))))
    | _ => .no
  | _ => .no
abbrev RU : List Addr → Hp → Unit → Unit → Prop := fun _ _ _ _ => True
def rSetM (K : PySem.W.Frag) : TSet := fun o i v H Q => ∃ (W : WX) (σ : St) (ρ : List Addr) (S : Sto) (dO dI dV : D), Held K ρ H S ∧ Is K ρ H dO o ∧ Is K ρ H dI i ∧ Is K ρ H dV v ∧ Good K W σ RU (fun _ H' => Q H') ρ H (fSet dO dI dV S)
theorem set_md (hu : X.A.units + 1 < cLine) : PSet X (rSetM X.K) := by
  intro pins s σ H o i v ov iv u Q I ro ri rv ⟨W, σ', ρ, S, dO, dI, dV, hd, r1, r2, r3, g⟩
  unfold fSet at g
  split at g
  · rename_i l
    split at g
    · rename_i ds hc
      split at g
      · rename_i k
        obtain ⟨j, hj, g2⟩ := g.need
        obtain ⟨ad, rfl, ha, vs, h1, h2⟩ := hd.at_ r1 hc
        rw [Is] at r2
        refine set_list pins s σ H _ i v ov iv u Q I ro ri rv ⟨ad, vs, k, j, rfl, r2, h1, (by rw [h2.length]; exact hj), ?_⟩
        obtain ⟨h3, e3⟩ := hd.writeL ha (h2.set (i := j) r3)
        exact g2 ρ _ () h3 e3 trivial
      · exact g.elim
    · rename_i kvs hc
      obtain ⟨c, g2⟩ := g.guard
      rw [Bool.and_eq_true] at c
      obtain ⟨q, hq⟩ := Option.isSome_iff_exists.mp c.1
      obtain rfl := keyD_V hq r2
      obtain ⟨ad, rfl, ha, ks, h1, h2⟩ := hd.at_ r1 hc
      refine set_dict hu pins s σ H _ _ v ov iv u Q I ro ri rv ⟨ad, _, rfl, DPut.k h1 (by rw [h2.length]; exact small_lt c.2), ?_⟩
      obtain ⟨h3, e3⟩ := hd.write (o := .dK (putK ks q v)) (c := .dct (putD kvs dI dV)) ha ⟨_, upd_same, (IsKV.put hq r3 h2).ext (Held.ext_write (List.mem_of_getElem? ha))⟩
      exact g2 ρ _ () h3 e3 trivial
    · exact g.elim
  · exact g.elim
def sSub (mo mi me : ED) : SD := fun loc S => (me loc S).thn loc fun v S1 => (mo loc S1).thn loc fun o S2 => (mi loc S2).thn loc fun i S3 => (fSet o i v S3).thn loc fun _ S4 => .nx loc S4
theorem pms_sub {o i : Expr} {tp : Pos} (hu : X.A.units + 1 < cLine) (ho : PE X o (tE X.K W ma)) (hi : PE X i (tE X.K W mb)) (he : PE X e (tE X.K W me))
    (ha : ∀ v, assign (.Subscript o i tp) X.env v = (do
      let ov ← holding [v] (eval o X.env)
      let iv ← holding [v, ov] (eval i X.env)
      standAt tp
      holding [v, ov, iv] (setItem ov iv v)
      release [v, ov, iv] []) := by intro _; rfl)
    (hs : swapsWithSole [.Subscript o i tp] e pos.line X.env = pure false := by rfl) (hw : swappedStores [.Subscript o i tp] e X.env = pure none := by rfl)
    (h1 : (assignEach [.Subscript o i tp] X.env).map (·.2) = [assign (.Subscript o i tp) X.env] := by rfl) : PS X (.Assign [.Subscript o i tp] e pos) (tS X.K W (sSub ma mb me)) :=
  (ps_asg he (pg_sub ho hi (set_md hu) ha) hs hw h1).md fun En σ H ⟨ρ, loc, S, rl, hd, g⟩ => ⟨ρ, loc, S, rl, hd, GoodS.thn rl g fun dv S1 ρ1 H1 xv hd1 e1 r1 g1 =>
    ⟨ρ1, loc, S1, rl.ext e1, hd1, GoodS.thn (rl.ext e1) g1 fun dO S2 ρ2 H2 xo hd2 e2 r2 g2 =>
      ⟨ρ2, loc, S2, (rl.ext e1).ext e2, hd2, GoodS.thn ((rl.ext e1).ext e2) g2 fun dI S3 ρ3 H3 xi hd3 e3 r3 g3 =>
        ⟨W, σ, ρ3, S3, dO, dI, dv, hd3, r2.ext e3, r3, (r1.ext e2).ext e3, GoodS.thn (((rl.ext e1).ext e2).ext e3) g3 fun _ S4 ρ4 H4 _ hd4 e4 _ g4 => g4 ρ4 H4 σ hd4 Ext.refl ((((rl.ext e1).ext e2).ext e3).ext e4)⟩⟩⟩⟩

/-! ### list(range(..)) -/
noncomputable def fRg (O : Nat) (i j : Int) (S : Sto) : Out D := guardO (bnd62 i && bnd62 j && small (j - i).toNat) (match O with
  | 0 => .ok (.lst (rgD i (j - i).toNat)) S
  | 1 => .ok (.ref S.length) (S ++ [.lst (rgD i (j - i).toNat)])
  | _ => .ok (.wtu (rgD i (j - i).toNat)) S)
theorem isL_rg {K : PySem.W.Frag} {ρ : List Addr} {H : Hp} (i j : Int) : IsL K ρ H (rgD i (j - i).toNat) (rgV i j) := by
  unfold rgD rgV
  generalize (List.range (j - i).toNat) = l
  induction l with
  | nil => exact IsL.nil
  | cons x r ih => exact IsL.cons (by rw [Is]) ih
theorem rg_ok {i j : Int} (h : (bnd62 i && bnd62 j && small (j - i).toNat) = true) : RgOk i j := by
  rw [Bool.and_eq_true, Bool.and_eq_true] at h
  exact ⟨(bnd62_ok h.1.1).1, (bnd62_ok h.1.1).2, (bnd62_ok h.1.2).1, (bnd62_ok h.1.2).2, Nat.le_trans (of_decide_eq_true h.2) (by decide)⟩
noncomputable def mRg1 (O : Nat) (ma : ED) : ED := fun loc S => (ma loc S).bind fun d S1 => need (intOf d) fun j => fRg O 0 j S1
noncomputable def mRg2 (O : Nat) (ma mb : ED) : ED := fun loc S => (ma loc S).bind fun d S1 => (mb loc S1).bind fun f S2 => need (intOf d) fun i => need (intOf f) fun j => fRg O i j S2
noncomputable abbrev mRgL1 := mRg1 0
noncomputable abbrev mRgLO1 := mRg1 1
noncomputable abbrev mRgLT1 := mRg1 2
noncomputable abbrev mRgL2 := mRg2 0
noncomputable abbrev mRgLO2 := mRg2 1
noncomputable abbrev mRgLT2 := mRg2 2
theorem rg_end {K : PySem.W.Frag} {σ : St} {ρ : List Addr} {H : Hp} {S : Sto} {Q : VK} {O : Nat} {i j : Int} (hO : O < 2) (hd : Held K ρ H S) (g : Good K W σ (Is K) Q ρ H (fRg O i j S)) : RgOk i j ∧ ∀ q, H q = none → Q (.ref q) (upd H q (.lst (rgV i j))) := by
  obtain ⟨c, g2⟩ := g.guard
  refine ⟨rg_ok c, fun q nq => ?_⟩
  match O, hO, g2 with
  | 0, _, g2 =>
    obtain ⟨h3, e3, r3⟩ := hd.newL nq (isL_rg i j)
    exact g2 ρ _ _ h3 e3 r3
  | 1, _, g2 =>
    obtain ⟨h3, e3, r3⟩ := hd.pushL nq (isL_rg i j)
    exact g2 _ _ _ h3 e3 r3
theorem rg_endT {K : PySem.W.Frag} {σ : St} {ρ : List Addr} {H : Hp} {S : Sto} {Q : VK} {i j : Int} (hd : Held K ρ H S) (g : Good K W σ (Is K) Q ρ H (fRg 2 i j S)) : RgOk i j ∧ ∀ q, H q = none → Q (.ref q) (upd H q (.tup (rgV i j))) := by
  obtain ⟨c, g2⟩ := g.guard
  refine ⟨rg_ok c, fun q nq => ?_⟩
  obtain ⟨h3, e3, r3⟩ := hd.newW nq (isL_rg i j)
  exact g2 ρ _ _ h3 e3 r3
theorem tRg1_md {K : PySem.W.Frag} {k : Int → Sto → Out D} {σ : St} {H : Hp} {R : Int → Int → Hp → Prop} {Q : VK} (h : ∃ ρ loc S, RelL K ρ σ H loc ∧ Held K ρ H S ∧ Good K W σ (Is K) Q ρ H ((ma loc S).bind fun d S1 => need (intOf d) fun j => k j S1))
    (hk : ∀ ρ1 H1 S1 j, Held K ρ1 H1 S1 → Good K W σ (Is K) Q ρ1 H1 (k j S1) → R 0 j H1) : tRg1 (tE K W ma) σ H R := by
  obtain ⟨ρ, loc, S, rl, hd, g⟩ := h
  refine ⟨ρ, loc, S, rl, hd, Good.bind g fun d S1 ρ1 H1 x hd1 e1 r1 g1 => ?_⟩
  obtain ⟨j, hj, g2⟩ := g1.need
  obtain rfl := intOf_ok hj
  rw [Is] at r1
  exact ⟨j, r1, hk ρ1 H1 S1 j hd1 g2⟩
theorem tRg2_md {K : PySem.W.Frag} {k : Int → Int → Sto → Out D} {σ : St} {H : Hp} {R : Int → Int → Hp → Prop} {Q : VK} (h : ∃ ρ loc S, RelL K ρ σ H loc ∧ Held K ρ H S ∧ Good K W σ (Is K) Q ρ H ((ma loc S).bind fun d S1 => (mb loc S1).bind fun f S2 => need (intOf d) fun i => need (intOf f) fun j => k i j S2))
    (hk : ∀ ρ1 H1 S1 i j, Held K ρ1 H1 S1 → Good K W σ (Is K) Q ρ1 H1 (k i j S1) → R i j H1) : tRg2 (tE K W ma) (tE K W mb) σ H R := by
  obtain ⟨ρ, loc, S, rl, hd, g⟩ := h
  refine ⟨ρ, loc, S, rl, hd, Good.bind g fun d S1 ρ1 H1 x hd1 e1 r1 g1 => ⟨ρ1, loc, S1, rl.ext e1, hd1, Good.bind g1 fun f S2 ρ2 H2 y hd2 e2 r2 g2 => ?_⟩⟩
  obtain ⟨i, hi, g3⟩ := g2.need
  obtain ⟨j, hj, g4⟩ := g3.need
  obtain rfl := intOf_ok hi
  obtain rfl := intOf_ok hj
  rw [Is] at r1
  rw [Is] at r2
  exact ⟨i, j, r1, r2, hk ρ2 H2 S2 i j hd2 g4⟩
variable {q pr : Pos}
theorem pm_rgLO {O : Nat} (hO : O < 2) (hc : X.calm = true) (hg : Gl X "list") (hm : X.mg "list" = none) (hg2 : Gl X "range") (hm2 : X.mg "range" = none) (ha : PE X a (tE X.K W ma)) (na : starEach [.Call (.Name "range" pr) [a] [] q] X.env = (false, eval (.Call (.Name "range" pr) [a] [] q) X.env) :: starEach [] X.env := by rfl) (na2 : starEach [a] X.env = (false, eval a X.env) :: starEach [] X.env := by rfl) :
    PE X (.Call (.Name "list" p) [.Call (.Name "range" pr) [a] [] q] [] pos) (tE X.K W (mRg1 O ma)) :=
  (pe_listRg hc hg hm (prg_1 hg2 hm2 ha na2) na).md fun σ H Q h => tRg1_md (k := fun j S => fRg O 0 j S) h fun ρ1 H1 S1 j hd g => rg_end hO hd g
theorem pm_rgLO' {O : Nat} (hO : O < 2) (hc : X.calm = true) (hg : Gl X "list") (hm : X.mg "list" = none) (hg2 : Gl X "range") (hm2 : X.mg "range" = none) (ha : PE X a (tE X.K W ma)) (hb : PE X b (tE X.K W mb)) (na : starEach [.Call (.Name "range" pr) [a, b] [] q] X.env = (false, eval (.Call (.Name "range" pr) [a, b] [] q) X.env) :: starEach [] X.env := by rfl)
    (na2 : starEach [a, b] X.env = (false, eval a X.env) :: starEach [b] X.env := by rfl) (na3 : starEach [b] X.env = (false, eval b X.env) :: starEach [] X.env := by rfl) (hp : (backTo q (starEach [b] X.env)).any (·.1) = false := by rfl) :
    PE X (.Call (.Name "list" p) [.Call (.Name "range" pr) [a, b] [] q] [] pos) (tE X.K W (mRg2 O ma mb)) :=
  (pe_listRg hc hg hm (prg_2 hg2 hm2 ha hb na2 na3 hp) na).md fun σ H Q h => tRg2_md (k := fun i j S => fRg O i j S) h fun ρ1 H1 S1 i j hd g => rg_end hO hd g
theorem pm_rgL1 (hg : Gl X "list") (hm : X.mg "list" = none) (hg2 : Gl X "range") (hm2 : X.mg "range" = none) (ha : PE X a (tE X.K W ma)) (hc : X.calm = true := by rfl) (na : starEach [.Call (.Name "range" pr) [a] [] q] X.env = (false, eval (.Call (.Name "range" pr) [a] [] q) X.env) :: starEach [] X.env := by rfl) (na2 : starEach [a] X.env = (false, eval a X.env) :: starEach [] X.env := by rfl) :
    PE X (.Call (.Name "list" p) [.Call (.Name "range" pr) [a] [] q] [] pos) (tE X.K W (mRgL1 ma)) := pm_rgLO (by decide) hc hg hm hg2 hm2 ha na na2
theorem pm_rgLO1 (hg : Gl X "list") (hm : X.mg "list" = none) (hg2 : Gl X "range") (hm2 : X.mg "range" = none) (ha : PE X a (tE X.K W ma)) (hc : X.calm = true := by rfl) (na : starEach [.Call (.Name "range" pr) [a] [] q] X.env = (false, eval (.Call (.Name "range" pr) [a] [] q) X.env) :: starEach [] X.env := by rfl) (na2 : starEach [a] X.env = (false, eval a X.env) :: starEach [] X.env := by rfl) :
    PE X (.Call (.Name "list" p) [.Call (.Name "range" pr) [a] [] q] [] pos) (tE X.K W (mRgLO1 ma)) := pm_rgLO (by decide) hc hg hm hg2 hm2 ha na na2
theorem pm_rgL2 (hg : Gl X "list") (hm : X.mg "list" = none) (hg2 : Gl X "range") (hm2 : X.mg "range" = none) (ha : PE X a (tE X.K W ma)) (hb : PE X b (tE X.K W mb)) (hc : X.calm = true := by rfl) (na : starEach [.Call (.Name "range" pr) [a, b] [] q] X.env = (false, eval (.Call (.Name "range" pr) [a, b] [] q) X.env) :: starEach [] X.env := by rfl)
    (na2 : starEach [a, b] X.env = (false, eval a X.env) :: starEach [b] X.env := by rfl) (na3 : starEach [b] X.env = (false, eval b X.env) :: starEach [] X.env := by rfl) (hp : (backTo q (starEach [b] X.env)).any (·.1) = false := by rfl) :
    PE X (.Call (.Name "list" p) [.Call (.Name "range" pr) [a, b] [] q] [] pos) (tE X.K W (mRgL2 ma mb)) := pm_rgLO' (by decide) hc hg hm hg2 hm2 ha hb na na2 na3 hp
theorem pm_rgLO2 (hg : Gl X "list") (hm : X.mg "list" = none) (hg2 : Gl X "range") (hm2 : X.mg "range" = none) (ha : PE X a (tE X.K W ma)) (hb : PE X b (tE X.K W mb)) (hc : X.calm = true := by rfl) (na : starEach [.Call (.Name "range" pr) [a, b] [] q] X.env = (false, eval (.Call (.Name "range" pr) [a, b] [] q) X.env) :: starEach [] X.env := by rfl)
    (na2 : starEach [a, b] X.env = (false, eval a X.env) :: starEach [b] X.env := by rfl) (na3 : starEach [b] X.env = (false, eval b X.env) :: starEach [] X.env := by rfl) (hp : (backTo q (starEach [b] X.env)).any (·.1) = false := by rfl) :
    PE X (.Call (.Name "list" p) [.Call (.Name "range" pr) [a, b] [] q] [] pos) (tE X.K W (mRgLO2 ma mb)) := pm_rgLO' (by decide) hc hg hm hg2 hm2 ha hb na na2 na3 hp
theorem pm_rgLT1 (hg : Gl X "tuple") (hm : X.mg "tuple" = none) (hg2 : Gl X "range") (hm2 : X.mg "range" = none) (ha : PE X a (tE X.K W ma)) (hc : X.calm = true := by rfl) (na : starEach [.Call (.Name "range" pr) [a] [] q] X.env = (false, eval (.Call (.Name "range" pr) [a] [] q) X.env) :: starEach [] X.env := by rfl) (na2 : starEach [a] X.env = (false, eval a X.env) :: starEach [] X.env := by rfl) :
    PE X (.Call (.Name "tuple" p) [.Call (.Name "range" pr) [a] [] q] [] pos) (tE X.K W (mRgLT1 ma)) := (pe_tupRg hc hg hm (prg_1 hg2 hm2 ha na2) na).md fun σ H Q h => tRg1_md (k := fun j S => fRg 2 0 j S) h fun ρ1 H1 S1 j hd g => rg_endT hd g
theorem pm_rgLT2 (hg : Gl X "tuple") (hm : X.mg "tuple" = none) (hg2 : Gl X "range") (hm2 : X.mg "range" = none) (ha : PE X a (tE X.K W ma)) (hb : PE X b (tE X.K W mb)) (hc : X.calm = true := by rfl) (na : starEach [.Call (.Name "range" pr) [a, b] [] q] X.env = (false, eval (.Call (.Name "range" pr) [a, b] [] q) X.env) :: starEach [] X.env := by rfl)
    (na2 : starEach [a, b] X.env = (false, eval a X.env) :: starEach [b] X.env := by rfl) (na3 : starEach [b] X.env = (false, eval b X.env) :: starEach [] X.env := by rfl) (hp : (backTo q (starEach [b] X.env)).any (·.1) = false := by rfl) :
    PE X (.Call (.Name "tuple" p) [.Call (.Name "range" pr) [a, b] [] q] [] pos) (tE X.K W (mRgLT2 ma mb)) := (pe_tupRg hc hg hm (prg_2 hg2 hm2 ha hb na2 na3 hp) na).md fun σ H Q h => tRg2_md (k := fun i j S => fRg 2 i j S) h fun ρ1 H1 S1 i j hd g => rg_endT hd g

/-! ### reversed -/
theorem cellsOf_ok (S : Sto) (d : D) : ((cellsOf S d).all fun p => decide (S[p.1]? = some (.lst p.2))) = true := by
  cases d with
  | ref l =>
    unfold cellsOf
    simp only
    split
    · rename_i h
      simp [h]
    · rfl
  | _ => rfl
def revSrc (S : Sto) (d : D) : Option Src := match d with
  | .tup xs => some ⟨[], xs.reverse⟩
  | d => match lstOf S d with
    | some xs => some ⟨cellsOf S d, xs.reverse⟩
    | none => none
def mRev (ml : AD) : WD := fun loc S => (ml loc S).bind fun xs S1 => match xs with
  | [d] => need (revSrc S1 d) fun s => .ok s S1
  | _ => .no
def mRev1 (ma : ED) : WD := fun loc S => (ma loc S).bind fun d S1 => need (revSrc S1 d) fun s => .ok s S1
theorem pmi_rev {tg : Expr} (hg : Gl X "reversed") (hm : X.mg "reversed" = none) (he : PE X e (tE X.K W ma)) (hs : starEach [e] X.env = (false, eval e X.env) :: starEach [] X.env := by rfl) : PI X tg (.Call (.Name "reversed" p) [e] [] pos) (tI X.K W (mRev1 ma)) :=
  (RT.pi_revA hg hm he hs).md fun σ H Q ⟨ρ, loc, S, rl, hd, g⟩ => ⟨ρ, loc, S, rl, hd, Good.bind g fun d S1 ρ1 H1 x hd1 e1 r1 g1 => by
    obtain ⟨s, hq, g2⟩ := Good.need g1
    unfold revSrc at hq
    split at hq
    · cases hq
      obtain ⟨ad, rfl, _, h2⟩ := r1.stT
      obtain ⟨us, z1, z2⟩ := h2 ρ1 H1 H1 Ext.refl fun _ _ z => z
      refine ⟨ad, us, rfl, .inr ⟨z1, ?_⟩⟩
      rw [z2.length]
      exact g2 ρ1 H1 _ hd1 Ext.refl h2.rev
    · split at hq
      · rename_i q1
        cases hq
        obtain ⟨ad, rfl, _, h2⟩ := hd1.stL r1 q1
        obtain ⟨us, z1, z2⟩ := h2 ρ1 H1 S1 H1 hd1 Ext.refl (cellsOf_ok S1 d) fun _ _ z => z
        refine ⟨ad, us, rfl, .inl ⟨z1, ?_⟩⟩
        rw [z2.length]
        exact g2 ρ1 H1 _ hd1 Ext.refl h2.rev
      · cases hq⟩
end
end Md

set_option Elab.async false
set_option linter.all false
set_option maxRecDepth 100000
set_option maxHeartbeats 2000000
/-! Md11: sets of ints made from lists; isinstance. -/
namespace Md
open PySem PySem.Spec PyProof.Rows L2
section
variable {P : Program} {w : World} {A : Around} {E : Value → Shared → Prop} {s : Shared}
/-- an empty set as it is laid -/
abbrev set0 (w : World) : Obj := { cls := .type "set", dict := none, data := .set #[] 0 (.fresh 0 0 (!w.params.followText "set-order")) }
theorem set_of_list {l : Addr} {its : Array Value} (ns : List Int) {Q : Value → Shared → Prop} (calm : A.handled = none) (isl : s.heap.IsList l its) (vint : IntsAre its.toList ns) (few : ns.length + 1 < scanBound)
    (q : ∀ (g : Heap) (t c : Nat), SetR w g s.heap.objs.size (fun j => decide (j ∈ ns)) c → c ≤ ns.length → (∀ b o, s.heap.get? b = some o → g.get? b = some o) → Q (.ref s.heap.objs.size) { s with heap := g, toks := t }) :
    wpAny (model P w) A (call (.type "set") [.ref l]) Q E s := by
  have cnt : its.size = ns.length := by
    have z := vint.length
    rwa [Array.length_toList] at z
  obtain ⟨c0, tl, hmro⟩ := F.called_set.mro
  have f1 := F.called_set.made
  have f2 := F.called_set.sub
  have f3 := F.called_set.notType
  have f4 := F.called_set.canCreate
  have f5 := F.typeCall_set_1 (.ref l)
  refine wpAny_call (codeAny_of_tree ?_)
  show wpAny _ _ (callAny (.type "set") _) _ _ _
  refine wpAny_pure ⟨Code.quiet_builtin _ (by decide +kernel), ?_⟩
  refine codeAny_builtin F.entry_type_call ?_
  rw [Around.under_plain (weight_type_call_type "set" [.ref l] []) rfl]
  repeat (any_goals (first | assumption | wp_step))
  let h1 : Heap := s.heap.push (set0 w)
  have made := code_set_led1 (P := P) (A := A.in1) (s := s) (.ref l) (E := E) (Q₁ := fun v s' => v = .ref s.heap.objs.size ∧ s' = { s with heap := h1 }) ⟨rfl, rfl⟩
  refine codeAny_mono made fun r s1 hr => ?_
  match r, hr with
  | .error e, hr => exact hr
  | .ok (.ret v), hr =>
    obtain ⟨rfl, rfl⟩ := hr
    have at1 : h1.get? s.heap.objs.size = some (set0 w) := Heap.get?_push_size _ rfl
    have ty1 : Shared.TypeIs { s with heap := h1 } (.ref s.heap.objs.size) "set" := ⟨_, at1, rfl⟩
    have f6 := F.called_set.init.lookup
    have f7 := F.called_set.init.bind (.ref s.heap.objs.size)
    repeat (any_goals (first | assumption | wp_step))
    let fin : Value → Shared → Prop := fun r s2 => r = .none ∧ ∃ g t c, s2 = { s with heap := g, toks := t } ∧ SetR w g s.heap.objs.size (fun j => decide (j ∈ ns)) c ∧ c ≤ ns.length ∧ ∀ b o, s.heap.get? b = some o → g.get? b = some o
    refine codeAny_mono (codeAny_call_builtin (R := wants fin E) F.called_set.init.plain F.entry_set_init (check_set_init_1 ty1 ?_)) fun r2 s2 hr2 => ?_
    · obtain ⟨ol, hol, hcl, nl, hdl⟩ := isl
      obtain ⟨ocls, odict, odata, oslots⟩ := ol
      simp only at hcl hdl
      subst hcl hdl
      have isl1 : h1.IsList l its := ⟨_, Heap.get?_push_of_some _ hol, rfl, nl, rfl⟩
      have g1 := F.sub_list_set
      have g2 := F.sub_list_frozenset
      have g3 : (Value.type "list" == Value.type "dict") = false := by decide
      have below : l < s.heap.objs.size := Heap.lt_size hol
      unfold Builtin.«set.__init__» noKeywords Builtin.Frozenset.updateFrom
      generalize hPI : pyIter = PI
      wp_walk
      subst hPI
      refine wpAny_pyIter_list isl1 (wpAny_bind (wpAny_runValue ?_))
      have sz1 : h1.objs.size = s.heap.objs.size + 1 := Heap.size_push ..
      have apart : l ≠ h1.objs.size := by rw [sz1]; exact Nat.ne_of_lt (Nat.lt_succ_of_lt below)
      have out : s.heap.objs.size ∉ [h1.objs.size, l] := by
        rw [sz1]
        simp only [List.mem_cons, List.not_mem_nil, or_false, not_or]
        exact ⟨Nat.ne_of_lt (Nat.lt_succ_self _), fun z => Nat.lt_irrefl _ (z ▸ below)⟩
      have each : ∀ (i : Nat) (v : Value), its[i]? = some v → ∃ k t, ns[i]? = some k ∧ v = .int k t := by
        intro i v hv
        have lt : i < ns.length := cnt ▸ (Array.getElem?_eq_some_iff.mp hv).1
        obtain ⟨t, e⟩ := vint.int_at i v (by rw [Array.getElem?_toList]; exact hv)
        refine ⟨ns[i], t, List.getElem?_eq_getElem lt, ?_⟩
        rw [e, List.getD_eq_getElem?_getD, List.getElem?_eq_getElem lt]
        rfl
      have calm3 : A.in1.in1.in1.handled = none := by simp [calm]
      refine set_update_ints ((Walks.list calm3 _ l apart its).toS) s.heap.objs.size out ns cnt few each its.size 0 _ (Nat.sub_zero _) (Nat.zero_le _) ⟨⟨_, Heap.get?_push_size _ rfl, rfl, rfl⟩, isl1.push _⟩ ?start ?stop
      case start => exact ⟨0, Nat.le_refl 0, setR_new_at (Heap.get?_push_of_some _ at1)⟩
      case stop =>
        rintro ⟨g, gn, dr, tk, os⟩ c hm hc hS
        obtain rfl : gn = s.gens := hm.gens
        obtain rfl : dr = s.drawn := hm.drawn
        obtain rfl : os = s.os := hm.os
        show wpAny _ _ _ _ _ _
        refine wpAny_pure ?_
        show wpAny _ _ (ret Value.none) _ _ _
        rw [cnt] at hc
        refine wpAny_pure ⟨rfl, g, tk, c, rfl, hS, hc, fun b o e => ?_⟩
        have lb : b < s.heap.objs.size := Heap.lt_size e
        refine hm.heap b o ?_ (Heap.get?_push_of_some _ (Heap.get?_push_of_some _ e))
        show b ∉ [s.heap.objs.size, h1.objs.size]
        rw [sz1]
        simp only [List.mem_cons, List.not_mem_nil, or_false, not_or]
        exact ⟨Nat.ne_of_lt lb, Nat.ne_of_lt (Nat.lt_succ_of_lt lb)⟩
    · match r2, hr2 with
      | .error e, hr2 => exact hr2
      | .ok (.ret v), hr2 =>
        obtain ⟨rfl, g, t, c, rfl, z1, z2, z3⟩ := hr2
        repeat (any_goals (first | assumption | wp_step))
        exact q _ _ _ z1 z2 z3
end

/-! ### sorted(set(..)) -/
def insU (x : Int) : List Int → List Int
  | [] => [x]
  | y :: r => if x < y then x :: y :: r else if x = y then y :: r else y :: insU x r
def sortU (ns : List Int) : List Int := ns.foldr insU []
theorem insU_mem {x k : Int} : ∀ {l : List Int}, k ∈ insU x l ↔ k = x ∨ k ∈ l
  | [] => by simp [insU]
  | y :: r => by
    unfold insU
    split
    · simp
    · split
      · rename_i h1 h2
        subst h2
        simp
      · simp only [List.mem_cons, insU_mem (l := r)]
        constructor
        · rintro (h | h | h) <;> simp [h]
        · rintro (h | h | h) <;> simp [h]
theorem insU_lt {x : Int} : ∀ {l : List Int}, l.Pairwise (· < ·) → (insU x l).Pairwise (· < ·)
  | [], _ => by simp [insU]
  | y :: r, h => by
    unfold insU
    rw [List.pairwise_cons] at h
    split
    · rename_i h1
      rw [List.pairwise_cons, List.pairwise_cons]
      refine ⟨fun z hz => ?_, h⟩
      rcases List.mem_cons.mp hz with rfl | hz
      · exact h1
      · exact Int.lt_trans h1 (h.1 z hz)
    · split
      · rw [List.pairwise_cons]; exact h
      · rename_i h1 h2
        rw [List.pairwise_cons]
        refine ⟨fun z hz => ?_, insU_lt h.2⟩
        rcases insU_mem.mp hz with rfl | hz
        · omega
        · exact h.1 z hz
theorem sortU_mem {k : Int} : ∀ {ns : List Int}, k ∈ sortU ns ↔ k ∈ ns
  | [] => Iff.rfl
  | n :: r => by
    show k ∈ insU n (sortU r) ↔ _
    rw [insU_mem, sortU_mem (ns := r), List.mem_cons]
theorem sortU_lt : ∀ (ns : List Int), (sortU ns).Pairwise (· < ·)
  | [] => List.Pairwise.nil
  | n :: r => insU_lt (sortU_lt r)
theorem lt_uniq : ∀ {a b : List Int}, a.Pairwise (· < ·) → b.Pairwise (· < ·) → (∀ k, k ∈ a ↔ k ∈ b) → a = b
  | [], [], _, _, _ => rfl
  | [], y :: b, _, _, h => absurd ((h y).mpr (by simp)) (by simp)
  | x :: a, [], _, _, h => absurd ((h x).mp (by simp)) (by simp)
  | x :: a, y :: b, ha, hb, h => by
    rw [List.pairwise_cons] at ha hb
    have e : x = y := by
      rcases List.mem_cons.mp ((h x).mp (by simp)) with q | q
      · exact q
      · rcases List.mem_cons.mp ((h y).mpr (by simp)) with r | r
        · exact r.symm
        · have := ha.1 y r
          have := hb.1 x q
          omega
    subst e
    congr 1
    refine lt_uniq ha.2 hb.2 fun k => ?_
    have hk := h k
    simp only [List.mem_cons] at hk
    constructor
    · intro q
      rcases hk.mp (.inr q) with r | r
      · subst r; exact absurd (ha.1 k q) (Int.lt_irrefl _)
      · exact r
    · intro q
      rcases hk.mpr (.inr q) with r | r
      · subst r; exact absurd (hb.1 k q) (Int.lt_irrefl _)
      · exact r
section
variable {X : Cx} {W : WX} {a : Expr} {ma : ED} {pos p p2 q : Pos}
theorem isL_ints {K : PySem.W.Frag} {ρ : List Addr} {H : Hp} : ∀ {ns : List Int} {vs : List V}, IsL K ρ H (ns.map D.int) vs → vs = ns.map V.int
  | [], _, h => by rw [List.map_nil, IsL] at h; exact h
  | n :: ns, _, h => by
    rw [List.map_cons, IsL] at h
    obtain ⟨v, r, rfl, h1, h2⟩ := h
    rw [Is] at h1
    rw [h1, isL_ints h2]
    rfl
def rSetLst (K : PySem.W.Frag) (w : World) : List V → Hp → VK → Prop := fun vs H Q => ∃ (l : Addr) (ns : List Int), vs = [.ref l] ∧ SqL K H l (ns.map V.int) ∧ ns.length ≤ 4000 ∧ ∀ p c, c ≤ (sortU ns).length → H p = none → Q (.ref p) (upd H p (SetO w p (fun j => decide (j ∈ ns)) c))
theorem cr_setLst (hc : X.calm = true) : CallR X (.type "set") (rSetLst X.K X.w) := by
  intro pins s σ H vs us Q I r ⟨l, ns, ev, hl, few, k⟩
  subst ev
  rw [Vals.ref1 r]
  obtain ⟨its, rv, pl, _⟩ := I.list hl
  refine set_of_list (P := X.prog) ns (I.ok.hd hc) pl.isList (RZ.intsAre_vals rv) (Nat.lt_of_le_of_lt (Nat.succ_le_succ few) (by decide)) fun g t c hS _ keep => ?_
  have hcn : c ≤ (sortU ns).length := by
    obtain ⟨o, es, ep, tb, _, _, _, _, nd, mem, _, _, sz, _⟩ := hS
    rw [← sz, ← Array.length_toList, ← List.length_map (f := keyOf)]
    refine nd.length_le_of_subset fun k hk => ?_
    rw [sortU_mem]
    exact of_decide_eq_true ((mem k).mpr hk)
  exact ⟨.ref _, upd H s.heap.objs.size (SetO X.w s.heap.objs.size (fun j => decide (j ∈ ns)) c), I.laid (t' := t) (fun b u e => keep b u e) (Nat.le_refl _) (setO_new hS), rfl, k _ c hcn (I.hok.fresh (Nat.le_refl _))⟩
def fSortSet : D → Sto → Out D := fun d S => need (lstOf S d) fun ds => need (intsD ds) fun ns => guardO (decide (ns.length ≤ 4000 ∧ (sortU ns).length < 64)) (.ok (.lst ((sortU ns).map .int)) S)
def fSortSetO : D → Sto → Out D := fun d S => need (lstOf S d) fun ds => need (intsD ds) fun ns => guardO (decide (ns.length ≤ 4000 ∧ (sortU ns).length < 64)) (.ok (.ref S.length) (S ++ [.lst ((sortU ns).map .int)]))
theorem sortSet_md {f : D → Sto → Out D} (hf : f = fSortSet ∨ f = fSortSetO) {K : PySem.W.Frag} {w : World} {σ : L2.St} {H : Hp} {Q : VK} (h : tE K W (mUn f ma) σ H Q) :
    tCB (rSortedSet w) (tCons (tCB (rSetLst K w) (tCons (tE K W ma) tNil)) tNil) σ H Q := by
  obtain ⟨ρ, loc, S, rl, hd, g⟩ := h
  refine ⟨ρ, loc, S, rl, hd, Good.bind g fun d S1 ρ1 H1 x hd1 e1 r1 g1 => ?_⟩
  have base : ∃ ds ns, lstOf S1 d = some ds ∧ intsD ds = some ns ∧ (ns.length ≤ 4000 ∧ (sortU ns).length < 64) ∧ (Good K W σ (Is K) Q ρ1 H1 (.ok (.lst ((sortU ns).map .int)) S1) ∨ Good K W σ (Is K) Q ρ1 H1 (.ok (.ref S1.length) (S1 ++ [.lst ((sortU ns).map .int)]))) := by
    rcases hf with rfl | rfl
    · obtain ⟨ds, h1, g⟩ := Good.need g1
      obtain ⟨ns, h2, g⟩ := Good.need g
      obtain ⟨c, g⟩ := Good.guard g
      exact ⟨ds, ns, h1, h2, of_decide_eq_true c, .inl g⟩
    · obtain ⟨ds, h1, g⟩ := Good.need g1
      obtain ⟨ns, h2, g⟩ := Good.need g
      obtain ⟨c, g⟩ := Good.guard g
      exact ⟨ds, ns, h1, h2, of_decide_eq_true c, .inr g⟩
  obtain ⟨ds, ns, h1, h2, few, g2⟩ := base
  obtain ⟨l, vs, rfl, h3, h4⟩ := hd1.lstOf r1 h1
  obtain rfl := intsD_eq h2
  obtain rfl := isL_ints h4
  refine ⟨l, ns, rfl, SqL.of h3, few.1, fun p c hcn np => ?_⟩
  obtain ⟨hd2, e2⟩ := hd1.fresh (o := SetO w p (fun j => decide (j ∈ ns)) c) np
  refine ⟨p, _, c, rfl, upd_same, Nat.lt_of_le_of_lt hcn few.2, fun ms p' hlt hmem _ np' => ?_⟩
  have em : ms = sortU ns := lt_uniq hlt (sortU_lt ns) fun k => by rw [hmem k, decide_eq_true_eq, sortU_mem]
  subst em
  rcases g2 with g2 | g2
  · obtain ⟨h5, e5, r5⟩ := hd2.newL np' (IsL.of_ints (sortU ns))
    exact g2 ρ1 _ _ h5 (e2.trans e5) r5
  · obtain ⟨h5, e5, r5⟩ := hd2.pushL np' (IsL.of_ints (sortU ns))
    exact g2 _ _ _ h5 (e2.trans e5) r5
theorem pm_sortSet0 {f : D → Sto → Out D} (hf : f = fSortSet ∨ f = fSortSetO) (hg : Gl X "sorted") (hm : X.mg "sorted" = none) (hg2 : Gl X "set") (hm2 : X.mg "set" = none) (ha : PE X a (tE X.K W ma)) (hc : X.calm = true)
    (n1 : starEach [a] X.env = (false, eval a X.env) :: starEach [] X.env := by rfl) (n2 : starEach [.Call (.Name "set" p2) [a] [] q] X.env = (false, eval (.Call (.Name "set" p2) [a] [] q) X.env) :: starEach [] X.env := by rfl) :
    PE X (.Call (.Name "sorted" p) [.Call (.Name "set" p2) [a] [] q] [] pos) (tE X.K W (mUn f ma)) :=
  (pe_callB (cr_sortedSet hc) hg hm boot_sorted (pa_cons (pe_callTy (cr_setLst hc) hg2 hm2 PyProof.Rows.boot_set (pa_cons ha pa_nil n1) (he := n1)) pa_nil n2) (he := n2)).md fun σ H Q h => sortSet_md hf h
theorem pm_sortSet (hg : Gl X "sorted") (hm : X.mg "sorted" = none) (hg2 : Gl X "set") (hm2 : X.mg "set" = none) (ha : PE X a (tE X.K W ma)) (hc : X.calm = true := by rfl)
    (n1 : starEach [a] X.env = (false, eval a X.env) :: starEach [] X.env := by rfl) (n2 : starEach [.Call (.Name "set" p2) [a] [] q] X.env = (false, eval (.Call (.Name "set" p2) [a] [] q) X.env) :: starEach [] X.env := by rfl) :
    PE X (.Call (.Name "sorted" p) [.Call (.Name "set" p2) [a] [] q] [] pos) (tE X.K W (mUn fSortSet ma)) := pm_sortSet0 (.inl rfl) hg hm hg2 hm2 ha hc n1 n2
theorem pm_sortSetO (hg : Gl X "sorted") (hm : X.mg "sorted" = none) (hg2 : Gl X "set") (hm2 : X.mg "set" = none) (ha : PE X a (tE X.K W ma)) (hc : X.calm = true := by rfl)
    (n1 : starEach [a] X.env = (false, eval a X.env) :: starEach [] X.env := by rfl) (n2 : starEach [.Call (.Name "set" p2) [a] [] q] X.env = (false, eval (.Call (.Name "set" p2) [a] [] q) X.env) :: starEach [] X.env := by rfl) :
    PE X (.Call (.Name "sorted" p) [.Call (.Name "set" p2) [a] [] q] [] pos) (tE X.K W (mUn fSortSetO ma)) := pm_sortSet0 (.inr rfl) hg hm hg2 hm2 ha hc n1 n2

/-! ### isinstance -/
def tyD (S : Sto) : D → Option String
  | .non => some "NoneType"
  | .bl _ => some "bool"
  | .int _ => some "int"
  | .str _ => some "str"
  | .tup _ => some "tuple"
  | .lst _ => some "list"
  | .scr _ => some "list"
  | .ref l => match S[l]? with
    | some (.lst _) => some "list"
    | some (.dct _) => some "dict"
    | _ => none
  | .adr _ => none
  | .edc => some "dict"
  | .fn _ => none
  | .wtu _ => none
  | .lsx _ => some "list"
theorem tyD_ok {K : PySem.W.Frag} {ρ : List Addr} {H : Hp} {S : Sto} {d : D} {v : V} {T : String} (hd : Held K ρ H S) (r : Is K ρ H d v) (h : tyD S d = some T) : TyX K H v (.type T) := by
  have sq : ∀ {a vs}, SqL K H a vs → TyX K H (.ref a) (.type "list") := fun {a vs} z => by
    rcases z with (z | ⟨o, z⟩) | ⟨o, _, _, z, c, _⟩
    · exact .base (.lst z)
    · exact .base (.frz z)
    · exact .kList z c
  cases d with
  | non => rw [Is] at r; subst r; cases h; exact .base .non
  | bl b => rw [Is] at r; subst r; cases h; exact .base (.bl b)
  | int i => rw [Is] at r; subst r; cases h; exact .base (.int i)
  | str i => rw [Is] at r; subst r; cases h; exact .base (.str i)
  | tup ds =>
    cases h
    obtain ⟨a, vs, rfl, z, _⟩ := r.seqT
    rcases z with (z | ⟨o, z⟩) | ⟨o, _, _, z, c, _⟩
    · exact .base (.tup z)
    · exact .fTuple z
    · exact .kTuple z c
  | lst ds => cases h; rw [Is] at r; obtain ⟨a, vs, rfl, _, z, _⟩ := r; exact sq (SqL.of z)
  | scr ns => cases h; rw [Is] at r; obtain ⟨a, rfl, z⟩ := r; exact sq (z.imp (·.2) fun z => z)
  | ref l =>
    unfold tyD at h
    simp only at h
    split at h
    · rename_i ds hc
      cases h
      obtain ⟨a, rfl, _, vs, z, _⟩ := hd.at_ r hc
      exact sq (SqL.of z)
    · rename_i ds hc
      cases h
      obtain ⟨a, rfl, _, vs, z, _⟩ := hd.at_ r hc
      exact .base (.dK z)
    · cases h
  | adr a => cases h
  | edc =>
    cases h
    rw [Is] at r
    obtain ⟨a, rfl, _, z⟩ := r
    exact .base (.dK z)
  | fn x => cases h
  | wtu _ => cases h
  | lsx ds => cases h; rw [Is] at r; obtain ⟨a, vs, rfl, _, z, _⟩ := r; exact sq (SqL.of z)
def fIsi (T : String) : D → Sto → Out D := fun d S => need (tyD S d) fun t => need (kitB t T) fun b => .ok (.bl b) S
theorem pm_isi {T : String} {x : Str} (hg : Gl X "isinstance") (hm : X.mg "isinstance" = none) (hg2 : Gl X x) (hm2 : X.mg x = none) (hv : bootBuiltins x = some (.type T)) (ha : PE X a (tE X.K W ma)) (hn : x ≠ "__name__" := by decide) (hdb : (x == ("__debug__" : Str)) = false := by decide)
    (n1 : starEach [a, .Name x p2] X.env = (false, eval a X.env) :: starEach [.Name x p2] X.env := by rfl) (n2 : starEach [.Name x p2] X.env = (false, eval (.Name x p2) X.env) :: starEach [] X.env := by rfl) (n3 : (backTo pos (starEach [.Name x p2] X.env)).any (·.1) = false := by rfl) :
    PE X (.Call (.Name "isinstance" p) [a, .Name x p2] [] pos) (tE X.K W (mUn (fIsi T) ma)) :=
  (pe_callB call_isi hg hm boot_isinstance (pa_cons ha (pa_cons (pe_bltn (v := .ty T) hg2 hm2 hv rfl hn hdb) pa_nil n2) n1) (he := n1) (hpl := n3)).md fun σ H Q ⟨ρ, loc, S, rl, hd, g⟩ => ⟨ρ, loc, S, rl, hd, Good.bind g fun d S1 ρ1 H1 v hd1 e1 r1 g1 => by
    obtain ⟨t, ht, g2⟩ := Good.need g1
    obtain ⟨b, hb, g3⟩ := g2.need
    exact ⟨v, .ty T, .type t, .type T, b, rfl, .ty T, tyD_ok hd1 r1 ht, kit_ty hb, g3.ret hd1 (by rw [Is])⟩⟩
end
end Md

set_option Elab.async false
set_option linter.all false
set_option maxRecDepth 100000
/-! Md12: the same, where the new list is to be changed later. -/
namespace Md
open PySem PySem.Spec L2
section
variable {X : Cx} {W : WX} {a b e : Expr} {ma mb mc me : ED} {ml : AD} {pos p p2 : Pos}
/-- the outcome with its new list as a cell: for readings that end in «any new list» -/
def asCell (o : Out D) : Out D := match o with
  | .ok (.lst ds) S => .ok (.ref S.length) (S ++ [.lst ds])
  | o => o
def fAddO : D → D → Sto → Out D := fun d e S => match lstOf S d, lstOf S e with
  | some a, some b => guardO (small (a.length + b.length)) (.ok (.ref S.length) (S ++ [.lst (a ++ b)]))
  | _, _ => fAdd d e S
theorem om_addO : OpR X (binaryOp .Add) (rM X.K fAddO) := fun pins s σ H x y v u Q I rx ry ⟨W, σ', ρ, S, dx, dy, hd, r1, r2, g⟩ => by
  unfold fAddO at g
  split at g
  · rename_i a b ha hb
    obtain ⟨hs, g2⟩ := g.guard
    obtain ⟨p, vs, rfl, h1, i1⟩ := hd.lstOf r1 ha
    obtain ⟨q, us, rfl, h2, i2⟩ := hd.lstOf r2 hb
    refine op_cat pins s σ H _ _ v u Q I rx ry ⟨p, q, vs, us, rfl, rfl, h1, h2, (by rw [i1.length, i2.length]; exact small_line hs), fun z nz => ?_⟩
    obtain ⟨h3, e3, r3⟩ := hd.pushL nz (i1.append i2)
    exact g2 _ _ _ h3 e3 r3
  · exact om_add pins s σ H x y v u Q I rx ry ⟨W, σ', ρ, S, dx, dy, hd, r1, r2, g⟩
def fMulO : D → D → Sto → Out D := fun d e S => match lstOf S d, e with
  | some a, .int k => guardO (decide (-1000 ≤ k ∧ k ≤ 1000 ∧ a.length ≤ 1000)) (.ok (.ref S.length) (S ++ [.lst (Md.rep k.toNat a)]))
  | _, _ => fMul d e S
theorem om_mulO : OpR X (binaryOp .Mult) (rM X.K fMulO) := fun pins s σ H x y v u Q I rx ry ⟨W, σ', ρ, S, dx, dy, hd, r1, r2, g⟩ => by
  unfold fMulO at g
  split at g
  · rename_i a k ha
    obtain ⟨hs, g2⟩ := g.guard
    have hs := of_decide_eq_true hs
    obtain ⟨p, vs, rfl, h1, i1⟩ := hd.lstOf r1 ha
    have r2 : y = .int k := by rw [Is] at r2; exact r2
    refine op_rep pins s σ H _ _ v u Q I rx ry ⟨p, k, vs, rfl, r2, h1, (by omega), (by omega), ?_, fun z nz => ?_⟩
    · rw [i1.length]
      have : a.length * k.toNat ≤ 1000 * 1000 := Nat.mul_le_mul hs.2.2 (by omega)
      exact Nat.le_trans this (by decide)
    · obtain ⟨h3, e3, r3⟩ := hd.pushL nz (i1.rep k.toNat)
      exact g2 _ _ _ h3 e3 r3
  · exact om_mul pins s σ H x y v u Q I rx ry ⟨W, σ', ρ, S, dx, _, hd, r1, r2, g⟩
end
end Md
namespace Md
/-- the most turns of a while -/
def fuel : Nat := 1000000
end Md

set_option Elab.async false
set_option linter.all false
set_option maxRecDepth 100000
set_option maxHeartbeats 1000000
/-! Md13: enumerate of a tuple. -/
namespace Md
open PySem PySem.Spec L2
open AutoSeq1 (wpAny_loadPart')
abbrev titOb (l : Addr) : Obj := { cls := .type "tuple_iterator", data := .fields #[.ref l, .int 0 0] }
abbrev enumOb (it : Addr) : Obj := { cls := .type "enumerate", data := .fields #[.none, .bool false, .ref it, rawInt 0, .none, .none] }
theorem enum_new_tup (l : Addr) (items : Array Value) (n : Nat) (dct : Option Addr) (sl : Array (Option Value)) :
    Meets (Builtin.«enumerate.__new__» ⟨[.type "enumerate", .ref l], []⟩) (fun _ R s => s.heap.get? l = some { cls := .type "tuple", dict := dct, data := .seq items n, slots := sl } ∧
      R (.ok (.ret (.ref (s.heap.push (titOb l)).objs.size))) { s with heap := (s.heap.push (titOb l)).push (enumOb s.heap.objs.size) }) :=
  .of_wp fun prog w A R s ⟨hl, h⟩ => by
    obtain ⟨hp, g, d, tk, os⟩ := s
    have hsub := sub_enumerate
    have hT : Heap.IsTuple (Shared.heap ⟨hp, g, d, tk, os⟩) l items := ⟨_, hl, rfl, n, rfl⟩
    wp_walk using wpAny_loadPart' hl
    refine wpAny_stack_any fun st => wpAny_pure ?_
    split
    · rename_i c _ _ _ _ _
      cases (c == Value.type "enumerate") <;> (wp_walk using wpAny_loadPart' hl, wpAny_pyIter_tuple hT; exact ⟨_, rfl, h⟩)
    · wp_walk using wpAny_loadPart' hl, wpAny_pyIter_tuple hT
      exact ⟨_, rfl, h⟩
section
variable {prog : Program} {w : World} {A : Around} {E : Value → Shared → Prop} {s : Shared}
theorem call_enum_tup {l : Addr} {items : Array Value} {Q : Value → Shared → Prop} (hT : s.heap.IsTuple l items)
    (k : ∀ g, IsEnum g (s.heap.objs.size + 1) s.heap.objs.size 0 .none → g.IsTupleIter s.heap.objs.size l 0 → (∀ b o, s.heap.get? b = some o → g.get? b = some o) → Q (.ref (s.heap.objs.size + 1)) { s with heap := g }) :
    wpAny (model prog w) A (call (.type "enumerate") [.ref l]) Q E s := by
  obtain ⟨⟨c, dct, dt, sl⟩, hl, hc, n, hd⟩ := hT
  obtain rfl : c = .type "tuple" := hc
  obtain rfl : dt = .seq items n := hd
  refine callType_new F.called_enumerate (by decide) (F.typeCall_enumerate_1 _) (F.newCall_enumerate_1 _) (fun obj => F.args_object_init_2 obj _) F.entry_enumerate_new (enum_new_tup l items n dct sl) ⟨hl, ?_⟩
  have sz : (s.heap.push (titOb l)).objs.size = s.heap.objs.size + 1 := Heap.size_push ..
  show _ ∧ _
  rw [sz]
  have at1 : IsEnum ((s.heap.push (titOb l)).push (enumOb s.heap.objs.size)) (s.heap.objs.size + 1) s.heap.objs.size 0 .none := by
    have := Heap.get?_push_size (s.heap.push (titOb l)) (o := enumOb s.heap.objs.size) rfl
    rw [sz] at this
    exact this
  exact ⟨⟨_, at1, rfl⟩, k _ at1 ⟨_, Heap.get?_push_of_some _ (Heap.get?_push_size _ rfl), rfl, rfl⟩ fun b o x => Heap.get?_push_of_some _ (Heap.get?_push_of_some _ x)⟩
theorem draws_tup (hh : A.handled = none) (it l : Addr) (hne : l ≠ it) (items : Array Value) :
    Draws prog w A it [it, l] items.size (fun i v => items[i]? = some v) (fun i h => h.IsTupleIter it l i ∧ h.IsTuple l items) where
  live := fun _ _ st => let ⟨o, ho, _⟩ := st.1; ⟨o, ho⟩
  frame := fun _ _ _ st hk => ⟨st.1.at fun o e => hk it (by simp) o e, st.2.at fun o e => hk l (by simp) o e⟩
  item := fun i s Q E hi st hQ => RZ.nextOf_tuple_item st.1 st.2 (x := items[i]) (by simp [hi]) fun h' z hs' => hQ _ h' s.toks (by simp [hi]) ⟨z, st.2.extBut hs'.extBut hne⟩ hs'
  done := fun s Q E st hE => RZ.nextOf_tuple_end hh st.1 st.2 (by simp) hE
end
/-- the tuple at a, each item in a new pair -/
def IteT (K : PySem.W.Frag) (a : Addr) : It where
  go i H := ∃ (xs : List V) (x : V), SqT K H a xs ∧ xs[i]? = some x
  yld i H v H' := ∃ T x, v = .ref T ∧ H T = none ∧ H' = upd H T (.tup [.int (i : Nat), x]) ∧ ∀ xs, SqT K H a xs → xs[i]? = some x
  stop i H := ∃ xs : List V, SqT K H a xs ∧ xs.length = i
theorem turn_enumT {P : Program} {w : World} {K : PySem.W.Frag} {elts : List Expr} {kk : Nat} {tpos : Pos} (a e it : Addr) (ne : e ≠ it) (nae : a ≠ e) (nai : a ≠ it) :
    Turn P w K (.Tuple elts kk tpos) (IteT K a) [e, it] e (fun i h => (∃ old, IsEnum h e it ((i : Nat) : Int) old) ∧ h.IsTupleIter it a i) where
  mem := by simp
  obj := by
    rintro i h ⟨⟨old, he⟩, ⟨o, ho, hc, hd⟩⟩ b hb
    rcases List.mem_cons.mp hb with z | z
    · subst z
      exact ⟨_, he, fun v q => by cases q⟩
    · rw [List.mem_singleton] at z
      exact ⟨o, z ▸ ho, fun v q => by rw [hd] at q; cases q⟩
  keep := by
    rintro i h h' ⟨⟨old, he⟩, hi⟩ k
    exact ⟨⟨old, k e (by simp) _ he⟩, hi.at fun o q => k it (by simp) o q⟩
  item := by
    intro X hP hw hK hc i pins s σ H E I hf st0 go0
    subst hP hw hK
    obtain ⟨⟨old, he⟩, hit⟩ := st0
    obtain ⟨xs, x, hq, hx⟩ := go0
    obtain ⟨its, rv, p, hz⟩ := I.tuple hq
    obtain ⟨u, hu, ru⟩ := rv.get hx
    have isT : s.heap.IsTuple a its.toArray := p
    have lt : i < its.toArray.size := by
      have := (List.getElem?_eq_some_iff.mp hu).1
      simpa using this
    have le : e < s.heap.objs.size := Heap.lt_size he
    have li : it < s.heap.objs.size := let ⟨_, q, _⟩ := hit; Heap.lt_size q
    refine wpAny_pyNext_enum_itemD (draws_tup (A := X.A.in1) (I.ok.hd hc) it a nai its.toArray) he ⟨hit, isT⟩ lt ne (by simp [ne, Ne.symm nae]) fun v g tk hv ho hit' hT hsz hk => ?_
    have ev : v = u := by
      rw [show its.toArray[i]? = some u by simpa using hu] at hv
      exact (Option.some.inj hv).symm
    subst ev
    refine ⟨_, rfl, wpAny_letOwnedTupleGo_enum (s := { s with heap := g, toks := tk + 1 }) ho fun g2 he' sb => ?_⟩
    have hT2 : g2.get? s.heap.objs.size = some { cls := .type "tuple", data := .seq #[.int i tk, v] } := (sb.2 _ (Nat.ne_of_gt le)).trans hT
    have new : ObjOk X.prog X.w (upd H s.heap.objs.size (.tup [.int (i : Nat), x])) g2 s.heap.objs.size (.tup [.int (i : Nat), x]) :=
      ⟨(by show 2 ≤ sizeLine; decide), [.int i tk, v], .cons ⟨_, rfl⟩ (.cons ru .nil), ⟨_, hT2, rfl, _, rfl⟩⟩
    have J : Inv X pins σ (upd H s.heap.objs.size (.tup [.int (i : Nat), x])) { s with heap := g2, toks := tk + 1 } :=
      I.turnedNew (ch := [e, it]) (fun b ob hb q => (sb.2 b fun z => hb (by simp [z])).trans (hk b ob (fun z => hb (by simp [z])) (fun z => hb (by simp [z])) q)) hf (Nat.le_refl _) new
    refine ⟨.ref s.heap.objs.size, _, J, rfl, ⟨_, x, rfl, I.hok.fresh (Nat.le_refl _), rfl, fun ys hy => by rw [I.tuple_inj hy hq]; exact hx⟩, ⟨⟨v, ?_⟩, hit'.1.at fun o q => (sb.2 it (Ne.symm ne)).trans q⟩, fun b hb => ?_⟩
    · rw [show ((i + 1 : Nat) : Int) = (i : Int) + 1 by omega]
      exact he'
    · have lb : b < s.heap.objs.size := by
        rcases List.mem_cons.mp hb with z | z
        · exact z ▸ le
        · rw [List.mem_singleton] at z
          exact z ▸ li
      rw [upd_ne (Nat.ne_of_lt lb)]
      exact (hf b hb).1
  done := by
    intro X hP hw hK hc i pins s σ H E I hf st0 go0
    subst hP hw hK
    obtain ⟨⟨old, he⟩, hit⟩ := st0
    obtain ⟨xs, hq, hx⟩ := go0
    obtain ⟨its, rv, p, hz⟩ := I.tuple hq
    obtain ⟨f0, f1, f2, f3, f4, f5⟩ := hf it (by simp)
    have isT : s.heap.IsTuple a its.toArray := p
    have sz : its.toArray.size = i := by
      rw [List.size_toArray, ← rv.length]
      exact hx
    subst sz
    exact wpAny_pyNext_enum_endD (draws_tup (A := X.A.in1) (I.ok.hd hc) it a nai its.toArray) he ⟨hit, isT⟩ fun g eb => ⟨rfl, I.turned (t' := s.toks) (fun b o hb q => eb b o hb q) f0 f1 f3 f4 f5⟩
  self := by
    rintro A i s Q E ⟨⟨_, he⟩, _⟩ h
    exact wpAny_pyIter_enum he h
/-- enumerate of a list or a tuple -/
def iEnumA (K : PySem.W.Frag) (ta : TA) : TI := fun σ H R => ta σ H fun vs H1 => ∃ a, vs = [.ref a] ∧ (((∃ xs, SqL K H1 a xs) ∧ R (Ite K a) H1) ∨ ((∃ xs, SqT K H1 a xs) ∧ R (IteT K a) H1))
theorem pi_enumA {X : Cx} {e : Expr} {ta : TA} {p pos tpos : Pos} {elts : List Expr} {kk : Nat} (hg : Gl X "enumerate") (hm : X.mg "enumerate" = none) (ha : PA X [e] ta) (hs : starEach [e] X.env = [(false, eval e X.env)] := by rfl) :
    PI X (.Tuple elts kk tpos) (.Call (.Name "enumerate" p) [e] [] pos) (iEnumA X.K ta) := by
  constructor
  intro pins s σ H R I h
  refine PyProof.Rows.Call_ (ld_blt I hg hm PyProof.Rows.boot_enumerate (PyProof.Rows.callWith_type1 (thn (ha.run pos pins s σ H _ I h) fun us s1 ⟨vs, H1, I1, r1, a, ev, q1⟩ => ?_) hs rfl))
  subst ev
  rw [Vals.ref1 r1]
  have away : ∀ b ∈ [s1.heap.objs.size + 1, s1.heap.objs.size], FpOk X pins H1 b := fun b hb => by
    have hle : s1.heap.objs.size ≤ b := by
      rcases List.mem_cons.mp hb with z | z
      · rw [z]; exact Nat.le_succ _
      · rw [List.mem_singleton.mp z]; exact Nat.le_refl _
    exact I1.fpOk hle (I1.hok.fresh hle)
  rcases q1 with ⟨⟨xs, hq⟩, q⟩ | ⟨⟨xs, hq⟩, q⟩
  · obtain ⟨its, rv, pl, _⟩ := I1.list hq
    refine call_enumerate_list pl.isList fun g he hit _ hk => wpAny_pyIter_enum he ?_
    exact ⟨_, _, _, _, H1, rfl, I1.kept (t' := s1.toks) hk, turn_enum a (s1.heap.objs.size + 1) s1.heap.objs.size, ⟨⟨.none, he⟩, hit, Nat.succ_ne_self _⟩, away, q⟩
  · obtain ⟨its, rv, pl, _⟩ := I1.tuple hq
    have isT : s1.heap.IsTuple a its.toArray := pl
    have la : a < s1.heap.objs.size := let ⟨_, z, _⟩ := isT; Heap.lt_size z
    refine call_enum_tup isT fun g he hit hk => wpAny_pyIter_enum he ?_
    exact ⟨_, _, _, _, H1, rfl, I1.kept (t' := s1.toks) hk, turn_enumT a (s1.heap.objs.size + 1) s1.heap.objs.size (Nat.succ_ne_self _) (Nat.ne_of_lt (Nat.lt_succ_of_lt la)) (Nat.ne_of_lt la), ⟨⟨.none, he⟩, hit⟩, away, q⟩
theorem StT.enum {K : PySem.W.Frag} {ρ1 : List Addr} {H1 : Hp} {ds : List D} {a : Addr} (h : StT K ρ1 H1 ds a) : WalkD K ρ1 H1 ⟨[], enumD ds⟩ (IteT K a) := fun ρ H S Hx hd e c sub => by
  obtain ⟨vs, h1, h2⟩ := h ρ H Hx e sub
  refine ⟨fun i d hi => ?_, vs, h1, by rw [h2.length]; simp [enumD]⟩
  have hi : (ds.zipIdx.map fun p => D.wtu [.int (p.2 : Nat), p.1])[i]? = some d := hi
  rw [List.getElem?_map, List.getElem?_zipIdx] at hi
  cases hd' : ds[i]? with
  | none => rw [hd'] at hi; cases hi
  | some d0 =>
    rw [hd'] at hi
    simp at hi
    subst hi
    obtain ⟨v, h3, h4⟩ := h2.get hd'
    refine ⟨⟨vs, v, h1, h3⟩, fun x H3 ⟨T, x', y1, y2, y3, y4⟩ => .inr ⟨T, [.int (i : Nat), x'], _, y1, y2, y3, rfl, ?_⟩⟩
    have := y4 vs h1
    rw [h3] at this
    cases this
    exact IsL.cons (by rw [Is]) (IsL.cons h4 IsL.nil)
section
variable {X : Cx} {W : WX} {e : Expr} {ml : AD}
def mEnumA (ml : AD) : WD := fun loc S => (ml loc S).bind fun xs S1 => match xs with
  | [d] => need (seqOf S1 d) fun ds => .ok ⟨cellsOf S1 d, enumD ds⟩ S1
  | _ => .no
theorem pmi_enumA {p pos tpos : Pos} {elts : List Expr} {kk : Nat} (hg : Gl X "enumerate") (hm : X.mg "enumerate" = none) (ha : PA X [e] (tA X.K W ml)) (hs : starEach [e] X.env = [(false, eval e X.env)] := by rfl) :
    PI X (.Tuple elts kk tpos) (.Call (.Name "enumerate" p) [e] [] pos) (tI X.K W (mEnumA ml)) :=
  (pi_enumA hg hm ha hs).md fun σ H Q ⟨ρ, loc, S, rl, hd, g⟩ => ⟨ρ, loc, S, rl, hd, Good.bind g fun ds S1 ρ1 H1 xs hd1 e1 r1 g1 => by
    match ds, r1, g1 with
    | [], _, g1 => exact g1.elim
    | _ :: _ :: _, _, g1 => exact g1.elim
    | [d], r1, g1 =>
      obtain ⟨ds, hq, g2⟩ := Good.need g1
      rw [IsL] at r1
      obtain ⟨v, r, rfl, i1, r1⟩ := r1
      rw [IsL] at r1
      subst r1
      cases d with
      | tup xs =>
        cases hq
        obtain ⟨a, rfl, h1, h2⟩ := i1.stT
        exact ⟨a, rfl, .inr ⟨h1, g2 ρ1 H1 _ hd1 Ext.refl h2.enum⟩⟩
      | lst xs =>
        obtain ⟨a, rfl, h1, h2⟩ := hd1.stL i1 hq
        exact ⟨a, rfl, .inl ⟨h1, g2 ρ1 H1 _ hd1 Ext.refl h2.enum⟩⟩
      | ref l =>
        obtain ⟨a, rfl, h1, h2⟩ := hd1.stL i1 hq
        exact ⟨a, rfl, .inl ⟨h1, g2 ρ1 H1 _ hd1 Ext.refl h2.enum⟩⟩
      | _ => cases hq⟩
end
end Md

set_option Elab.async false
set_option linter.all false
set_option maxRecDepth 100000
/-! Md14: running the functions. -/
namespace Md
open PySem L2
section
variable {α : Type} {loc : Loc} {S : Sto} {ma mb mc me : ED} {mt mu : BD} {ml mr : AD} {ms mq : SD}
@[simp] theorem r_var {i : Nat} : mVar i loc S = (match loc[i]? with | some (some d) => .ok d S | _ => .no) := rfl
@[simp] theorem r_c {d : D} : mC d loc S = .ok d S := rfl
@[simp] theorem r_op {f : D → D → Sto → Out D} : mOp f ma mb loc S = (ma loc S).bind fun x S1 => (mb loc S1).bind fun y S2 => f x y S2 := rfl
@[simp] theorem r_b : mB ma loc S = (ma loc S).bind fun d S1 => (match d with | .bl b => .ok b S1 | _ => .no) := rfl
@[simp] theorem r_un {f : D → Sto → Out D} : mUn f ma loc S = (ma loc S).bind f := rfl
@[simp] theorem r_tru : mTru ma loc S = (ma loc S).bind fun d S1 => need (truD S1 d) fun b => .ok b S1 := rfl
@[simp] theorem r_not : mNot mt loc S = (mt loc S).bind fun b S1 => .ok (!b) S1 := rfl
@[simp] theorem r_and : mAnd mt mu loc S = (mt loc S).bind fun b S1 => if b then mu loc S1 else .ok false S1 := rfl
@[simp] theorem r_or : mOr mt mu loc S = (mt loc S).bind fun b S1 => if b then .ok true S1 else mu loc S1 := rfl
@[simp] theorem r_notV : mNotV ma loc S = (ma loc S).bind fun d S1 => (match d with | .bl b => .ok (.bl (!b)) S1 | _ => .no) := rfl
@[simp] theorem r_andV : mAndV ma mb loc S = (ma loc S).bind fun d S1 => (match d with | .bl true => mb loc S1 | .bl false => .ok (.bl false) S1 | _ => .no) := rfl
@[simp] theorem r_orV : mOrV ma mb loc S = (ma loc S).bind fun d S1 => (match d with | .bl true => .ok (.bl true) S1 | .bl false => mb loc S1 | _ => .no) := rfl
@[simp] theorem r_if : mIf mt ma mb loc S = (mt loc S).bind fun k S1 => if k then ma loc S1 else mb loc S1 := rfl
@[simp] theorem r_nil : mNil loc S = .ok [] S := rfl
@[simp] theorem r_cons : mCons ma ml loc S = (ma loc S).bind fun d S1 => (ml loc S1).bind fun ds S2 => .ok (d :: ds) S2 := rfl
@[simp] theorem r_tup : mTup ml loc S = (ml loc S).bind fun ds S1 => guardO (small ds.length) (.ok (.tup ds) S1) := rfl
@[simp] theorem r_lst : mLst ml loc S = (ml loc S).bind fun ds S1 => guardO (small ds.length) (.ok (.lst ds) S1) := rfl
@[simp] theorem r_lstO : mLstO ml loc S = (ml loc S).bind fun ds S1 => guardO (small ds.length) (.ok (.ref S1.length) (S1 ++ [.lst ds])) := rfl
@[simp] theorem r_part0 : mPart none loc S = .ok none S := rfl
@[simp] theorem r_part1 : mPart (some ma) loc S = (ma loc S).bind fun d S1 => (match d with | .int i => .ok (some i) S1 | _ => .no) := rfl
@[simp] theorem r_sl {lo hi : OD} : mSl ma lo hi loc S = (ma loc S).bind fun d S1 => (lo loc S1).bind fun l S2 => (hi loc S2).bind fun h S3 => need (slD S3 d l h) fun r => .ok r S3 := rfl
@[simp] theorem r_call {f : List D → Sto → Out D} : mCall f ml loc S = (ml loc S).bind f := rfl
@[simp] theorem r_fn {f : List D → Sto → Out D} : mFn f ml loc S = (ml loc S).bind fun ds S1 => f ds S1 := rfl
@[simp] theorem r_met {T : String} {f : D → List D → Sto → Out D} : mMet T f ma ml loc S = (ma loc S).bind fun d S1 => guardO (tyIs S1 d T) ((ml loc S1).bind fun ds S2 => f d ds S2) := rfl
@[simp] theorem r_yes : mYes loc S = .ok true S := rfl
@[simp] theorem r_rng1 : mRng1 ml loc S = (ml loc S).bind fun ds S1 => need (int1 ds) fun j => guardO (bnd62 j) (.ok ⟨[], rgD 0 j.toNat⟩ S1) := rfl
@[simp] theorem r_rng2 : mRng2 ml loc S = (ml loc S).bind fun ds S1 => need (int2 ds) fun p => guardO (bnd62 p.1 && bnd62 p.2) (.ok ⟨[], rgD p.1 (p.2 - p.1).toNat⟩ S1) := rfl
@[simp] theorem r_seq : mSeq ma loc S = (ma loc S).bind fun d S1 => need (seqOf S1 d) fun ds => .ok ⟨cellsOf S1 d, ds⟩ S1 := rfl
@[simp] theorem r_lc {fin : List D → Sto → Out D} {mi : WD} {mg : TD} {vs : List Nat} : mLcF fin mi mg mt me vs loc S = (mi loc S).bind fun src S1 => (lcGo (cellOk src) mg mt me (wipeL loc vs) src.ds [] S1).bind fin := rfl
@[simp] theorem r_finL {ds : List D} : finL ds S = .ok (.lst ds) S := rfl
@[simp] theorem r_finO {ds : List D} : finO ds S = .ok (.ref S.length) (S ++ [.lst ds]) := rfl
@[simp] theorem r_rg1 {O : Nat} : mRg1 O ma loc S = (ma loc S).bind fun d S1 => need (intOf d) fun j => fRg O 0 j S1 := rfl
@[simp] theorem r_rg2 {O : Nat} : mRg2 O ma mb loc S = (ma loc S).bind fun d S1 => (mb loc S1).bind fun f S2 => need (intOf d) fun i => need (intOf f) fun j => fRg O i j S2 := rfl
@[simp] theorem r_snil : sNil loc S = .nx loc S := rfl
@[simp] theorem r_scons : sCons ms mq loc S = (ms loc S).bind mq := rfl
@[simp] theorem r_expr : sExpr me loc S = (me loc S).thn loc fun _ S1 => .nx loc S1 := rfl
@[simp] theorem r_ret : sRet me loc S = (me loc S).thn loc fun d S1 => .rt d S1 := rfl
@[simp] theorem r_retN : sRetN loc S = .rt .non S := rfl
@[simp] theorem r_sif : sIf mt ms mq loc S = (mt loc S).thn loc fun k S1 => if k then ms loc S1 else mq loc S1 := rfl
@[simp] theorem r_set {i : Nat} : sSet i me loc S = (me loc S).thn loc fun d S1 => .nx (loc.set i (some d)) S1 := rfl
@[simp] theorem r_asg {mg : TD} : sAsg mg me loc S = (me loc S).thn loc fun d S1 => needS (mg d loc) fun l => .nx l S1 := rfl
@[simp] theorem r_par {i j : Nat} : sPar i j ml loc S = (ml loc S).thn loc fun ds S1 => (match ds with | [d1, d2] => .nx ((loc.set i (some d1)).set j (some d2)) S1 | _ => .no) := rfl
@[simp] theorem r_sub : sSub ma mb me loc S = (me loc S).thn loc fun v S1 => (ma loc S1).thn loc fun o S2 => (mb loc S2).thn loc fun i S3 => (fSet o i v S3).thn loc fun _ S4 => .nx loc S4 := rfl
@[simp] theorem r_brk : sBrk loc S = .bk loc S := rfl
@[simp] theorem r_cnt : sCnt loc S = .ct loc S := rfl
@[simp] theorem r_for {mi : WD} {mg : TD} : sFor mi mg ms loc S = (mi loc S).thn loc fun src S1 => forGo (cellOk src) mg ms src.ds loc S1 := rfl
@[simp] theorem r_mgName {i : Nat} {d : D} : mgName i d loc = some (loc.set i (some d)) := rfl
@[simp] theorem r_mgNil : mgNil [] loc = some loc := rfl
@[simp] theorem r_mgCons {mg : TD} {mgs : TDs} {d : D} {ds : List D} : mgCons mg mgs (d :: ds) loc = (mg d loc).bind (mgs ds) := rfl
@[simp] theorem r_mgTup {n : Nat} {mgs : TDs} {ds : List D} : mgTup n mgs (.tup ds) loc = if ds.length = n then mgs ds loc else none := rfl
@[simp] theorem r_ints {C : Int → Int → Bool} {g : Int → Int → D} {i j : Int} : fInts C g (.int i) (.int j) S = guardO (C i j) (.ok (g i j) S) := rfl
@[simp] theorem r_add {i j : Int} : fAdd (.int i) (.int j) S = .ok (.int (i + j)) S := rfl
@[simp] theorem r_mgTupW {n : Nat} {mgs : TDs} {ds : List D} : mgTup n mgs (.wtu ds) loc = if ds.length = n then mgs ds loc else none := rfl
@[simp] theorem r_addT {a b : List D} : fAdd (.tup a) (.tup b) S = guardO (small (a.length + b.length)) (.ok (.tup (a ++ b)) S) := rfl
@[simp] theorem r_addL {a b : List D} : fAdd (.lst a) (.lst b) S = guardO (small (a.length + b.length)) (.ok (.lst (a ++ b)) S) := rfl
@[simp] theorem r_addO {i j : Int} : fAddO (.int i) (.int j) S = .ok (.int (i + j)) S := rfl
@[simp] theorem r_addOL {a b : List D} : fAddO (.lst a) (.lst b) S = guardO (small (a.length + b.length)) (.ok (.ref S.length) (S ++ [.lst (a ++ b)])) := rfl
@[simp] theorem r_mul {i j : Int} : fMul (.int i) (.int j) S = guardO (cMul i j) (.ok (.int (i * j)) S) := rfl
@[simp] theorem r_neg {i : Int} : fNeg (.int i) S = .ok (.int (-i)) S := rfl
@[simp] theorem r_int {i : Int} : fInt [.int i] S = .ok (.int i) S := rfl
@[simp] theorem r_len {d : D} : fLen [d] S = need (lenD S d) fun n => .ok (.int n) S := rfl
@[simp] theorem r_tuple {d : D} : fTuple [d] S = need (seqOf S d) fun ds => .ok (.tup ds) S := rfl
@[simp] theorem r_list {d : D} : fList [d] S = need (seqOf S d) fun ds => .ok (.lst ds) S := rfl
@[simp] theorem r_listO {d : D} : fListO [d] S = need (seqOf S d) fun ds => .ok (.ref S.length) (S ++ [.lst ds]) := rfl
@[simp] theorem r_sorted {d : D} : fSorted [d] S = need (lstOf S d) fun ds => need (pyDL ds) fun ps => guardO (sortOk ps) (.ok (.lst (ds.mergeSort leD)) S) := rfl
@[simp] theorem r_ix {x y : D} : fIx x y S = need (ixD S x y) fun d => .ok d S := rfl
@[simp] theorem r_eq {x y : D} : fEq x y S = need (eqD S x y) fun b => .ok (.bl b) S := rfl
@[simp] theorem r_ne {x y : D} : fNe x y S = need (eqD S x y) fun b => .ok (.bl (!b)) S := rfl
@[simp] theorem r_in {x y : D} : fIn x y S = need (inD S x y) fun b => .ok (.bl b) S := rfl
@[simp] theorem r_notIn {x y : D} : fNotIn x y S = need (inD S x y) fun b => .ok (.bl (!b)) S := rfl
@[simp] theorem r_repr {d : D} : fRepr [d] S = need (reprD S d) fun x => .ok (.str x) S := rfl
@[simp] theorem r_max {i j : Int} : fMax [.int i, .int j] S = .ok (.int (max i j)) S := by
  show Out.ok (D.int (if j > i then j else i)) S = _
  congr 2
  split <;> omega
@[simp] theorem r_min {i j : Int} : fMin [.int i, .int j] S = .ok (.int (min i j)) S := by
  show Out.ok (D.int (if j < i then j else i)) S = _
  congr 2
  split <;> omega
@[simp] theorem r_abs {i : Int} : fAbs [.int i] S = .ok (.int (if i < 0 then -i else i)) S := rfl
@[simp] theorem q_seqT {ds : List D} : seqOf S (.tup ds) = some ds := rfl
@[simp] theorem q_seqL {ds : List D} : seqOf S (.lst ds) = some ds := rfl
@[simp] theorem q_seqR {l : Nat} : seqOf S (.ref l) = lstOf S (.ref l) := rfl
@[simp] theorem q_lstL {ds : List D} : lstOf S (.lst ds) = some ds := rfl
@[simp] theorem q_lstR {l : Nat} : lstOf S (.ref l) = (match S[l]? with | some (.lst ds) => some ds | _ => none) := rfl
@[simp] theorem q_cellsL {ds : List D} : cellsOf S (.lst ds) = [] := rfl
@[simp] theorem q_cellsT {ds : List D} : cellsOf S (.tup ds) = [] := rfl
@[simp] theorem q_ok0 {ds : List D} : cellOk ⟨[], ds⟩ S = true := rfl
@[simp] theorem q_lenT {ds : List D} : lenD S (.tup ds) = some ds.length := rfl
@[simp] theorem q_lenL {ds : List D} : lenD S (.lst ds) = some ds.length := rfl
@[simp] theorem q_lenR {l : Nat} : lenD S (.ref l) = (match S[l]? with | some (.dct kvs) => some kvs.length | some (.lst ds) => some ds.length | _ => none) := rfl
@[simp] theorem q_int1 {i : Int} : int1 [.int i] = some i := rfl
@[simp] theorem q_int2 {i j : Int} : int2 [.int i, .int j] = some (i, j) := rfl
@[simp] theorem q_intOf {i : Int} : intOf (.int i) = some i := rfl
@[simp] theorem q_ixT {ds : List D} {i : Int} : ixD S (.tup ds) (.int i) = atI ds i := rfl
@[simp] theorem q_ixL {ds : List D} {i : Int} : ixD S (.lst ds) (.int i) = atI ds i := rfl
@[simp] theorem q_ixR {l : Nat} {i : Int} : ixD S (.ref l) (.int i) = (match S[l]? with | some (.dct kvs) => lkD kvs (.int i) | some (.lst ds) => atI ds i | _ => none) := rfl
end
theorem atI_nat {α : Type} {xs : List α} {i : Nat} : atI xs (i : Int) = xs[i]? := by
  unfold atI ixN
  rw [if_pos (by omega)]
  by_cases h : i < xs.length
  · rw [if_pos (by omega)]
    simp
  · rw [if_neg (by omega)]
    simp
    omega
@[simp] theorem atI_0 {α : Type} {xs : List α} : atI xs 0 = xs[0]? := atI_nat (i := 0)
@[simp] theorem atI_1 {α : Type} {xs : List α} : atI xs 1 = xs[1]? := atI_nat (i := 1)
@[simp] theorem atI_2 {α : Type} {xs : List α} : atI xs 2 = xs[2]? := atI_nat (i := 2)
theorem small_of {n : Nat} (h : n ≤ 1000000) : small n = true := decide_eq_true h
theorem bnd_of {i : Int} (h1 : -(2 ^ 62) ≤ i) (h2 : i < 2 ^ 62) : bnd62 i = true := by
  exact @decide_eq_true _ (Classical.propDecidable _) ⟨h1, h2⟩

/-! ### what comes out -/
def Out.To {α : Type} (o : Out α) (P : α → Sto → Prop) : Prop := ∃ a S, o = .ok a S ∧ P a S
def OutS.To (o : OutS) (P : Loc → Sto → Prop) : Prop := ∃ l S, o = .nx l S ∧ P l S
def OutS.Rt (o : OutS) (P : D → Sto → Prop) : Prop := ∃ d S, o = .rt d S ∧ P d S
section
variable {α β : Type} {P : α → Sto → Prop} {Q : β → Sto → Prop}
theorem Out.To.ok {a : α} {S : Sto} (h : P a S) : (Out.ok a S).To P := ⟨a, S, rfl, h⟩
theorem Out.To.bind {o : Out α} {k : α → Sto → Out β} (h : o.To P) (f : ∀ a S, P a S → (k a S).To Q) : (o.bind k).To Q := by
  obtain ⟨a, S, rfl, p⟩ := h
  exact f a S p
theorem Out.To.imp {o : Out α} {P' : α → Sto → Prop} (h : o.To P) (f : ∀ a S, P a S → P' a S) : o.To P' := by
  obtain ⟨a, S, e, p⟩ := h
  exact ⟨a, S, e, f a S p⟩
theorem Out.To.thn {o : Out α} {loc : Loc} {k : α → Sto → OutS} {R : Loc → Sto → Prop} (h : o.To P) (f : ∀ a S, P a S → (k a S).To R) : (o.thn loc k).To R := by
  obtain ⟨a, S, rfl, p⟩ := h
  exact f a S p
theorem Out.To.thnR {o : Out α} {loc : Loc} {k : α → Sto → OutS} {R : D → Sto → Prop} (h : o.To P) (f : ∀ a S, P a S → (k a S).Rt R) : (o.thn loc k).Rt R := by
  obtain ⟨a, S, rfl, p⟩ := h
  exact f a S p
theorem OutS.To.ok {l : Loc} {S : Sto} {P : Loc → Sto → Prop} (h : P l S) : (OutS.nx l S).To P := ⟨l, S, rfl, h⟩
theorem OutS.Rt.ok {d : D} {S : Sto} {P : D → Sto → Prop} (h : P d S) : (OutS.rt d S).Rt P := ⟨d, S, rfl, h⟩
theorem OutS.To.bind {o : OutS} {k : SD} {P R : Loc → Sto → Prop} (h : o.To P) (f : ∀ l S, P l S → (k l S).To R) : (o.bind k).To R := by
  obtain ⟨a, S, rfl, p⟩ := h
  exact f a S p
theorem OutS.To.bindR {o : OutS} {k : SD} {P : Loc → Sto → Prop} {R : D → Sto → Prop} (h : o.To P) (f : ∀ l S, P l S → (k l S).Rt R) : (o.bind k).Rt R := by
  obtain ⟨a, S, rfl, p⟩ := h
  exact f a S p
theorem OutS.Rt.bind {o : OutS} {k : SD} {P : D → Sto → Prop} (h : o.Rt P) : (o.bind k).Rt P := by
  obtain ⟨a, S, rfl, p⟩ := h
  exact ⟨a, S, rfl, p⟩
/-- a loop over a list, by an invariant of what is behind -/
theorem for_to {ok : Sto → Bool} {mg : TD} {ms : SD} (ds : List D) (I : Nat → Loc → Sto → Prop) {loc : Loc} {S : Sto} (h0 : I 0 loc S) (hok : ∀ i l S, i ≤ ds.length → I i l S → ok S = true)
    (hs : ∀ i d l S, ds[i]? = some d → I i l S → ∃ l', mg d l = some l' ∧ (ms l' S).To (I (i + 1))) : (forGo ok mg ms ds loc S).To (I ds.length) := by
  suffices h : ∀ (r : List D) (i : Nat) (loc : Loc) (S : Sto), ds.drop i = r → i ≤ ds.length → I i loc S → (forGo ok mg ms r loc S).To (I ds.length) from h ds 0 loc S rfl (Nat.zero_le _) h0
  intro r
  induction r with
  | nil =>
    intro i loc S hr hi p
    have : i = ds.length := by
      have := List.drop_eq_nil_iff.mp hr
      omega
    subst this
    show (guardS (ok S) (.nx loc S)).To _
    rw [hok _ _ _ (Nat.le_refl _) p]
    exact .ok p
  | cons d r ih =>
    intro i loc S hr hi p
    have hlt : i < ds.length := by
      rcases Nat.lt_or_ge i ds.length with h | h
      · exact h
      · rw [List.drop_eq_nil_of_le h] at hr; cases hr
    have hd : ds[i]? = some d := by
      have := List.getElem?_drop (xs := ds) (i := i) (j := 0)
      rw [hr] at this
      simpa using this.symm
    have hr' : ds.drop (i + 1) = r := by
      rw [← List.drop_drop, hr]; rfl
    obtain ⟨l', e1, l2, S2, e2, p2⟩ := hs i d loc S hd p
    show (guardS (ok S) (needS (mg d loc) fun l => loopS (ms l S) (forGo ok mg ms r))).To _
    rw [hok _ _ _ hi p, e1]
    show (loopS (ms l' S) _).To _
    rw [e2]
    exact ih (i + 1) l2 S2 hr' hlt p2
/-- a comprehension -/
theorem lc_to {ok : Sto → Bool} {mg : TD} {mt : BD} {me : ED} {lw : Loc} (ds : List D) (I : Nat → List D → Sto → Prop) {S : Sto} (h0 : I 0 [] S) (hok : ∀ i a S, i ≤ ds.length → I i a S → ok S = true)
    (hs : ∀ i d a S, ds[i]? = some d → I i a S → ∃ l, mg d lw = some l ∧ ((∃ S1, mt l S = .ok false S1 ∧ I (i + 1) a S1) ∨ ∃ S1, mt l S = .ok true S1 ∧ a.length ≤ 1000000 ∧ (me l S1).To fun y S2 => I (i + 1) (a ++ [y]) S2)) :
    (lcGo ok mg mt me lw ds [] S).To (I ds.length) := by
  suffices h : ∀ (r : List D) (i : Nat) (a : List D) (S : Sto), ds.drop i = r → i ≤ ds.length → I i a S → (lcGo ok mg mt me lw r a S).To (I ds.length) from h ds 0 [] S rfl (Nat.zero_le _) h0
  intro r
  induction r with
  | nil =>
    intro i a S hr hi p
    have : i = ds.length := by
      have := List.drop_eq_nil_iff.mp hr
      omega
    subst this
    rw [lcGo, hok _ _ _ (Nat.le_refl _) p]
    exact .ok p
  | cons d r ih =>
    intro i a S hr hi p
    have hlt : i < ds.length := by
      rcases Nat.lt_or_ge i ds.length with h | h
      · exact h
      · rw [List.drop_eq_nil_of_le h] at hr; cases hr
    have hd : ds[i]? = some d := by
      have := List.getElem?_drop (xs := ds) (i := i) (j := 0)
      rw [hr] at this
      simpa using this.symm
    have hr' : ds.drop (i + 1) = r := by
      rw [← List.drop_drop, hr]; rfl
    obtain ⟨l, e1, h⟩ := hs i d a S hd p
    rw [lcGo, hok _ _ _ hi p, e1]
    rcases h with ⟨S1, e2, p1⟩ | ⟨S1, e2, hz, y, S2, e3, p2⟩
    · simp only [guardO_true, need_some, e2, noex_ok, Out.bind_ok, Bool.false_eq_true, if_false]
      exact ih (i + 1) a S1 hr' hlt p1
    · simp only [guardO_true, need_some, e2, e3, noex_ok, Out.bind_ok, if_true, small_of hz]
      exact ih (i + 1) _ S2 hr' hlt p2
end
/-- .. of pure elements -/
theorem lc_pure {ok : Sto → Bool} {mg : TD} {mt : BD} {me : ED} {lw : Loc} {S : Sto} (hok : ok S = true) (p : D → Bool) (f : D → D) : ∀ (ds acc : List D), acc.length + ds.length ≤ 1000000 →
    (∀ d ∈ ds, ∃ l, mg d lw = some l ∧ mt l S = .ok (p d) S ∧ (p d = true → me l S = .ok (f d) S)) → lcGo ok mg mt me lw ds acc S = .ok (acc ++ (ds.filter p).map f) S
  | [], acc, _, _ => by rw [lcGo, hok]; simp
  | d :: ds, acc, hz, h => by
    obtain ⟨l, e1, e2, e3⟩ := h d (by simp)
    rw [lcGo, hok, e1]
    simp only [guardO_true, need_some, e2, noex_ok, Out.bind_ok]
    have hz' : acc.length + (ds.length + 1) ≤ 1000000 := by simpa using hz
    cases hp : p d with
    | true =>
      rw [if_pos rfl, e3 hp]
      simp only [noex_ok, Out.bind_ok, small_of (show acc.length ≤ 1000000 by omega), guardO_true]
      rw [lc_pure hok p f ds (acc ++ [f d]) (by simp; omega) fun x hx => h x (by simp [hx])]
      simp [hp]
    | false =>
      rw [if_neg Bool.false_ne_true, lc_pure hok p f ds acc (by omega) fun x hx => h x (by simp [hx])]
      simp [hp]
theorem lc_map {ok : Sto → Bool} {mg : TD} {me : ED} {lw : Loc} {S : Sto} (hok : ok S = true) (f : D → D) (ds : List D) (hz : ds.length ≤ 1000000)
    (h : ∀ d ∈ ds, ∃ l, mg d lw = some l ∧ me l S = .ok (f d) S) : lcGo ok mg mYes me lw ds [] S = .ok (ds.map f) S := by
  have := lc_pure (mt := mYes) hok (fun _ => true) f ds [] (by simpa using hz) fun d hd => let ⟨l, a, b⟩ := h d hd; ⟨l, a, rfl, fun _ => b⟩
  have e : ds.filter (fun _ => true) = ds := List.filter_eq_self.mpr fun _ _ => rfl
  rw [e] at this
  simpa using this
end Md

set_option Elab.async false
set_option linter.all false
set_option maxRecDepth 100000
/-! Md15: data as texts, equality, membership, sorting. -/
namespace Md
open PySem L2
@[simp] theorem small_eq {n : Nat} : small n = decide (n ≤ 1000000) := rfl
mutual
def pyE : D → PyData
  | .non => .none
  | .bl b => .bool b
  | .int i => .int i
  | .str x => .str x
  | .tup ds => .tuple (pyEL ds)
  | .lst ds => .list (pyEL ds)
  | _ => .none
def pyEL : List D → List PyData
  | [] => []
  | d :: ds => pyE d :: pyEL ds
end
mutual
/-- plain data: ints that are not too long, texts of plain signs -/
def okD : D → Bool
  | .non => true
  | .bl _ => true
  | .int _ => true
  | .str x => PyData.strOk x
  | .tup ds => okL ds
  | .lst ds => okL ds
  | _ => false
def okL : List D → Bool
  | [] => true
  | d :: ds => okD d && okL ds
end
mutual
/-- ints that are not too long -/
def ltD : D → Bool
  | .int i => decide (i.natAbs < 2 ^ 900)
  | .tup ds => ltL ds
  | .lsx ds => ltL ds
  | .lst ds => ltL ds
  | _ => true
def ltL : List D → Bool
  | [] => true
  | d :: ds => ltD d && ltL ds
end
mutual
/-- no truth values -/
def nbD : D → Bool
  | .bl _ => false
  | .tup ds => nbL ds
  | .lst ds => nbL ds
  | _ => true
def nbL : List D → Bool
  | [] => true
  | d :: ds => nbD d && nbL ds
end
mutual
def dep : D → Nat
  | .tup ds => depL ds + 1
  | .lsx ds => depL ds + 1
  | .lst ds => depL ds + 1
  | _ => 0
def depL : List D → Nat
  | [] => 0
  | d :: ds => max (dep d) (depL ds)
end
mutual
def blk : D → Nat
  | .str x => x.cps.size
  | .tup ds => blkL ds
  | .lsx ds => blkL ds
  | .lst ds => blkL ds
  | _ => 0
def blkL : List D → Nat
  | [] => 0
  | d :: ds => blk d + 1 + blkL ds
end
mutual
theorem pyD_ok : ∀ {d : D}, okD d = true → pyD d = some (pyE d)
  | .non, _ => rfl
  | .bl _, _ => rfl
  | .int _, _ => rfl
  | .str _, _ => rfl
  | .tup ds, h => by rw [okD] at h; rw [pyD, pyDL_ok h]; rfl
  | .lst ds, h => by rw [okD] at h; rw [pyD, pyDL_ok h]; rfl
  | .adr _, h => by cases h
  | .ref _, h => by cases h
  | .scr _, h => by cases h
  | .edc, h => by cases h
  | .fn _, h => by cases h
  | .wtu _, h => by cases h
  | .lsx _, h => by cases h
theorem pyDL_ok : ∀ {ds : List D}, okL ds = true → pyDL ds = some (pyEL ds)
  | [], _ => rfl
  | d :: ds, h => by
    rw [okL, Bool.and_eq_true] at h
    rw [pyDL, pyD_ok h.1, pyDL_ok h.2]; rfl
end
mutual
theorem py_lay : ∀ {d : D}, okD d = true → (pyE d).canLay0 = true ∧ (pyE d).hasDict = false ∧ (pyE d).depth = dep d ∧ (pyE d).bulk = blk d
  | .non, _ => ⟨rfl, rfl, rfl, rfl⟩
  | .bl _, _ => ⟨rfl, rfl, rfl, rfl⟩
  | .int i, _ => ⟨rfl, rfl, rfl, rfl⟩
  | .str x, h => ⟨h, rfl, rfl, rfl⟩
  | .tup ds, h => by
    rw [okD] at h
    obtain ⟨a, b, f, g⟩ := pyL_lay h
    exact ⟨a, b, congrArg (· + 1) f, g⟩
  | .lst ds, h => by
    rw [okD] at h
    obtain ⟨a, b, f, g⟩ := pyL_lay h
    exact ⟨a, b, congrArg (· + 1) f, g⟩
  | .adr _, h => by cases h
  | .ref _, h => by cases h
  | .scr _, h => by cases h
  | .edc, h => by cases h
  | .fn _, h => by cases h
  | .wtu _, h => by cases h
  | .lsx _, h => by cases h
theorem pyL_lay : ∀ {ds : List D}, okL ds = true → PyData.canLayAll0 (pyEL ds) = true ∧ PyData.hasDictAll (pyEL ds) = false ∧ PyData.depthAll (pyEL ds) = depL ds ∧ PyData.bulkAll (pyEL ds) = blkL ds
  | [], _ => ⟨rfl, rfl, rfl, rfl⟩
  | d :: ds, h => by
    rw [okL, Bool.and_eq_true] at h
    obtain ⟨a, b, f, g⟩ := py_lay h.1
    obtain ⟨a', b', f', g'⟩ := pyL_lay h.2
    rw [pyEL]
    refine ⟨?_, ?_, ?_, ?_⟩
    · rw [PyData.canLayAll0, a, a']; rfl
    · rw [PyData.hasDictAll, b, b']; rfl
    · rw [PyData.depthAll, f, f']; rfl
    · rw [PyData.bulkAll, g, g']; rfl
end
mutual
theorem py_short : ∀ {d : D}, okD d = true → ltD d = true → (pyE d).showable = true ∧ (pyE d).leavesShort 400 = true
  | .non, _, _ => ⟨rfl, rfl⟩
  | .bl _, _, _ => ⟨rfl, rfl⟩
  | .int i, _, h => by
    rw [ltD, decide_eq_true_eq] at h
    have lg : i.natAbs.log2 < 900 := by
      by_cases h0 : i.natAbs = 0
      · rw [h0]; decide
      · exact (Nat.log2_lt h0).mpr h
    refine ⟨?_, ?_⟩
    · show decide _ = true
      exact decide_eq_true (by omega)
    · show decide _ = true
      have e : (PyData.shown (.int i)).length = (toString i).length := ofString_length _
      exact decide_eq_true (by rw [e]; exact Nat.le_trans (int_text_length_le10 (k := 300) (by decide) (Nat.lt_of_lt_of_le h (by decide +kernel))) (by decide))
  | .str x, h, _ => by
    refine ⟨rfl, ?_⟩
    show (x.cps.toList.all fun c => decide (c < 16 ^ 8)) = true
    rw [List.all_eq_true]
    intro c hc
    have h : x.cps.all (· < 0x110000) = true := h
    rw [Array.all_eq_true'] at h
    have := of_decide_eq_true (h c (by simpa using hc))
    exact decide_eq_true (Nat.lt_trans this (by decide))
  | .tup ds, h, k => by
    rw [okD] at h
    rw [ltD] at k
    exact pyL_short h k
  | .lst ds, h, k => by
    rw [okD] at h
    rw [ltD] at k
    exact pyL_short h k
  | .adr _, h, _ => by cases h
  | .ref _, h, _ => by cases h
  | .scr _, h, _ => by cases h
  | .edc, h, _ => by cases h
  | .fn _, h, _ => by cases h
theorem pyL_short : ∀ {ds : List D}, okL ds = true → ltL ds = true → PyData.showableAll (pyEL ds) = true ∧ PyData.leavesShortAll 400 (pyEL ds) = true
  | [], _, _ => ⟨rfl, rfl⟩
  | d :: ds, h, k => by
    rw [okL, Bool.and_eq_true] at h
    rw [ltL, Bool.and_eq_true] at k
    obtain ⟨a, b⟩ := py_short h.1 k.1
    obtain ⟨a', b'⟩ := pyL_short h.2 k.2
    rw [pyEL]
    exact ⟨by rw [PyData.showableAll, a, a']; rfl, by rw [PyData.leavesShortAll, b, b']; rfl⟩
end
theorem okD_pyS {S : Sto} {d : D} (h : okD d = true) : pyS S d = some (pyE d) := by
  cases d with
  | ref l => cases h
  | _ => exact pyD_ok h
theorem pyS_ref {S : Sto} {l : Nat} {ds : List D} (e : S[l]? = some (.lst ds)) (h : okL ds = true) : pyS S (.ref l) = some (.list (pyEL ds)) := by
  unfold pyS
  simp [e, pyDL_ok h]
theorem shaped_of {p : PyData} (h1 : p.canLay0 = true) (h2 : p.depth ≤ 64) : SeqAt.shaped p = true := by
  unfold SeqAt.shaped
  rw [h1, decide_eq_true h2]; rfl
mutual
theorem eqv_is : ∀ {a b : D}, okD a = true → okD b = true → nbD a = true → nbD b = true → PyData.eqv (pyE a) (pyE b) = D.beq a b
  | .non, b, _, hb, _, nb => by cases b <;> first | rfl | cases hb | cases nb
  | .bl _, _, _, _, h, _ => by cases h
  | .int i, b, _, hb, _, nb => by
    cases b with
    | int j =>
      show (i == j) = decide (i = j)
      by_cases e : i = j <;> simp [e]
    | bl => rw [nbD] at nb; cases nb
    | _ => first | rfl | cases hb | cases nb
  | .str x, b, _, hb, _, nb => by
    cases b with
    | str y =>
      show (x == y) = decide (x = y)
      by_cases e : x = y <;> simp [e]
    | _ => first | rfl | cases hb | cases nb
  | .tup ds, b, ha, hb, na, nb => by
    cases b with
    | tup es =>
      rw [okD] at ha hb
      rw [nbD] at na nb
      exact eqvL_is ha hb na nb
    | _ => first | rfl | cases hb | cases nb
  | .lst ds, b, ha, hb, na, nb => by
    cases b with
    | lst es =>
      rw [okD] at ha hb
      rw [nbD] at na nb
      exact eqvL_is ha hb na nb
    | _ => first | rfl | cases hb | cases nb
  | .adr _, _, h, _, _, _ => by cases h
  | .ref _, _, h, _, _, _ => by cases h
  | .scr _, _, h, _, _, _ => by cases h
  | .edc, _, h, _, _, _ => by cases h
  | .fn _, _, h, _, _, _ => by cases h
theorem eqvL_is : ∀ {a b : List D}, okL a = true → okL b = true → nbL a = true → nbL b = true → PyData.eqvAll (pyEL a) (pyEL b) = D.beqL a b
  | [], [], _, _, _, _ => rfl
  | [], _ :: _, _, _, _, _ => rfl
  | _ :: _, [], _, _, _, _ => rfl
  | x :: a, y :: b, ha, hb, na, nb => by
    rw [okL, Bool.and_eq_true] at ha hb
    rw [nbL, Bool.and_eq_true] at na nb
    rw [pyEL, pyEL, PyData.eqvAll, D.beqL, eqv_is ha.1 hb.1 na.1 nb.1, eqvL_is ha.2 hb.2 na.2 nb.2]
end
theorem beq_iff {a b : D} : D.beq a b = decide (a = b) := by
  by_cases h : a = b
  · subst h; rw [D.beq_refl]; simp
  · cases q : D.beq a b with
    | true => exact absurd (D.eq_of_beq a b q) h
    | false => simp [h]
theorem eqD_0 {S : Sto} {a b : D} (h : ∀ x y, a = .str x → b = .str y → False) : eqD S a b = eqD0 S a b := by
  unfold eqD
  split
  · exact (h _ _ rfl rfl).elim
  · rfl
@[simp] theorem eqD_str {S : Sto} {i j : Str} : eqD S (.str i) (.str j) = some (decide (i = j)) := rfl
theorem eqD_is {S : Sto} {a b : D} (ha : okD a = true) (hb : okD b = true) (na : nbD a = true) (nb : nbD b = true) (da : dep a ≤ 64) (db : dep b ≤ 64) : eqD S a b = some (decide (a = b)) := by
  by_cases hs : ∃ x y, a = .str x ∧ b = .str y
  · obtain ⟨x, y, rfl, rfl⟩ := hs
    rw [eqD_str]
    simp
  rw [eqD_0 fun x y e1 e2 => hs ⟨x, y, e1, e2⟩]
  unfold eqD0
  rw [okD_pyS ha, okD_pyS hb]
  obtain ⟨a1, _, a2, _⟩ := py_lay ha
  obtain ⟨b1, _, b2, _⟩ := py_lay hb
  simp only [Option.bind_some, shaped_of a1 (a2 ▸ da), shaped_of b1 (b2 ▸ db), Bool.and_self, if_true, eqv_is ha hb na nb, beq_iff]
@[simp] theorem eqD_int {S : Sto} {i j : Int} : eqD S (.int i) (.int j) = some (decide (i = j)) := by
  show some (i == j) = _
  by_cases h : i = j <;> simp [h]
/-- a cell of plain things, against [] -/
theorem eqD_nil {S : Sto} {l : Nat} {ds : List D} (e : S[l]? = some (.lst ds)) (h : okL ds = true) (hd : depL ds ≤ 60) : eqD S (.ref l) (.lst []) = some ds.isEmpty := by
  rw [eqD_0 fun x y e1 e2 => by cases e1]
  unfold eqD0
  obtain ⟨a1, _, a2, _⟩ := pyL_lay h
  have s1 : SeqAt.shaped (.list (pyEL ds)) = true := shaped_of a1 (by show PyData.depthAll (pyEL ds) + 1 ≤ 64; omega)
  rw [pyS_ref e h, show pyS S (.lst []) = some (.list []) from rfl]
  simp only [Option.bind_some, s1, show SeqAt.shaped (.list []) = true from rfl, Bool.and_self, if_true]
  cases ds <;> rfl
theorem reprD_is {S : Sto} {d : D} (h : okD d = true) (h0 : ltD d = true) (h1 : dep d ≤ 40) (h2 : blk d ≤ 30000) : reprD S d = some (pyE d).shown := by
  obtain ⟨_, b, f, g⟩ := py_lay h
  obtain ⟨c, e⟩ := py_short h h0
  unfold reprD
  rw [okD_pyS h]
  have : shownOk (pyE d) = true := by
    unfold shownOk
    rw [b, c, e, decide_eq_true (f ▸ h1), decide_eq_true (g ▸ h2)]; rfl
  show (if shownOk (pyE d) = true then _ else none) = _
  rw [if_pos this]

/-! ### lists of plain things -/
theorem okL_map {α : Type} {f : α → D} : ∀ {xs : List α}, (∀ x ∈ xs, okD (f x) = true) → okL (xs.map f) = true
  | [], _ => rfl
  | x :: xs, h => by rw [List.map_cons, okL, h x (by simp), okL_map fun y hy => h y (by simp [hy])]; rfl
theorem ltL_map {α : Type} {f : α → D} : ∀ {xs : List α}, (∀ x ∈ xs, ltD (f x) = true) → ltL (xs.map f) = true
  | [], _ => rfl
  | x :: xs, h => by rw [List.map_cons, ltL, h x (by simp), ltL_map fun y hy => h y (by simp [hy])]; rfl
theorem nbL_map {α : Type} {f : α → D} : ∀ {xs : List α}, (∀ x ∈ xs, nbD (f x) = true) → nbL (xs.map f) = true
  | [], _ => rfl
  | x :: xs, h => by rw [List.map_cons, nbL, h x (by simp), nbL_map fun y hy => h y (by simp [hy])]; rfl
theorem depL_map {α : Type} {f : α → D} {n : Nat} : ∀ {xs : List α}, (∀ x ∈ xs, dep (f x) ≤ n) → depL (xs.map f) ≤ n
  | [], _ => Nat.zero_le _
  | x :: xs, h => by rw [List.map_cons, depL]; exact Nat.max_le.mpr ⟨h x (by simp), depL_map fun y hy => h y (by simp [hy])⟩
theorem blkL_map {α : Type} {f : α → D} {n : Nat} : ∀ {xs : List α}, (∀ x ∈ xs, blk (f x) ≤ n) → blkL (xs.map f) ≤ xs.length * (n + 1)
  | [], _ => Nat.zero_le _
  | x :: xs, h => by
    rw [List.map_cons, blkL, List.length_cons, Nat.succ_mul]
    have h1 := h x (by simp)
    have h2 := blkL_map (n := n) (xs := xs) (f := f) fun y hy => h y (by simp [hy])
    omega
theorem refsBL_map {α : Type} {f : α → D} {n : Nat} : ∀ {xs : List α}, (∀ x ∈ xs, refsB n (f x) = true) → refsBL n (xs.map f) = true
  | [], _ => rfl
  | x :: xs, h => by rw [List.map_cons, refsBL, h x (by simp), refsBL_map fun y hy => h y (by simp [hy])]; rfl
mutual
theorem okD_refs {n : Nat} : ∀ {d : D}, okD d = true → refsB n d = true
  | .non, _ => rfl
  | .bl _, _ => rfl
  | .int _, _ => rfl
  | .str _, _ => rfl
  | .tup ds, h => by rw [okD] at h; rw [refsB]; exact okL_refs h
  | .lst ds, h => by rw [okD] at h; rw [refsB]; exact okL_refs h
  | .adr _, h => by cases h
  | .ref _, h => by cases h
  | .scr _, h => by cases h
  | .edc, h => by cases h
  | .fn _, h => by cases h
  | .wtu _, h => by cases h
  | .lsx _, h => by cases h
theorem okL_refs {n : Nat} : ∀ {ds : List D}, okL ds = true → refsBL n ds = true
  | [], _ => rfl
  | d :: ds, h => by
    rw [okL, Bool.and_eq_true] at h
    rw [refsBL, okD_refs h.1, okL_refs h.2]; rfl
end
@[simp] theorem okL_ints {ns : List Int} : okL (ns.map D.int) = true := okL_map fun _ _ => rfl
@[simp] theorem nbL_ints {ns : List Int} : nbL (ns.map D.int) = true := nbL_map fun _ _ => rfl
@[simp] theorem depL_ints {ns : List Int} : depL (ns.map D.int) = 0 := Nat.le_zero.mp (depL_map fun _ _ => Nat.le_refl _)
@[simp] theorem refsBL_ints {ns : List Int} {n : Nat} : refsBL n (ns.map D.int) = true := okL_refs okL_ints
/-! ### what a def leaves -/
theorem cutC_self : ∀ (n : Nat) (r : List Cell), cutC n r r = true
  | _, [] => rfl
  | n, c :: r => by rw [cutC, cutC_self n r]; simp
theorem thaw_ok {k n : Nat} {S : Sto} {d : D} (h : refsB n d = true) : thaw k n S d = some d := by
  cases k <;> (unfold thaw; rw [if_pos h])
theorem thawL_ok {k n : Nat} {S : Sto} : ∀ {ds : List D}, refsBL n ds = true → thawL (thaw k n S) ds = some ds
  | [], _ => rfl
  | d :: ds, h => by
    rw [refsBL, Bool.and_eq_true] at h
    rw [thawL, thaw_ok h.1, thawL_ok h.2]
theorem thaw_ref {k n l : Nat} {S : Sto} {ds : List D} (hl : n ≤ l) (e : S[l]? = some (.lst ds)) (h : refsBL n ds = true) : thaw (k + 1) n S (.ref l) = some (.lst ds) := by
  unfold thaw
  rw [if_neg (by rw [refsB, decide_eq_true_eq]; omega)]
  show (match S[l]? with | some (.lst xs) => (thawL (thaw k n S) xs).map D.lst | _ => none) = _
  rw [e]
  show (thawL (thaw k n S) ds).map D.lst = _
  rw [thawL_ok h]; rfl
/-- a def that changes no cell of its caller -/
theorem def_pure {n p : Nat} {ms : SD} {ds : List D} {S : Sto} {d' : D} (hp : ds.length = p) (h : (ms (startL n ds) S).Rt fun d S' => S'.take S.length = S ∧ thaw 3 S.length S' d = some d') : mDef n p ms ds S = .ok d' S := by
  obtain ⟨d, S', e, h1, h2⟩ := h
  unfold mDef
  rw [if_pos hp, e]
  show need (thaw 3 S.length S' d) _ = _
  rw [h2, h1]
  show guardO (cutC S.length S S) _ = _
  rw [cutC_self]; rfl
end Md

set_option Elab.async false
set_option linter.all false
set_option maxRecDepth 100000
set_option maxHeartbeats 1000000
/-! Md16: a[i], b[j] = x, y; sorted(set(pairs)). -/
namespace Md
open PySem L2
section
variable {X : Cx} {W : WX} {pos : Pos}
def pair2 : D → Option (D × D)
  | .tup [v, w] => some (v, w)
  | _ => none
theorem pair2_eq {d : D} {p : D × D} (h : pair2 d = some p) : d = .tup [p.1, p.2] := by
  unfold pair2 at h
  split at h
  · cases h; rfl
  · cases h
def sSub2 (mo mi no ni me : ED) : SD := fun loc S => (me loc S).thn loc fun d S1 => needS (pair2 d) fun p =>
  (mo loc S1).thn loc fun o S2 => (mi loc S2).thn loc fun i S3 => (fSet o i p.1 S3).thn loc fun _ S4 =>
      (no loc S4).thn loc fun o S5 => (ni loc S5).thn loc fun i S6 => (fSet o i p.2 S6).thn loc fun _ S7 => .nx loc S7
theorem pms_sub2 {o i o' i' e : Expr} {tp tp' tpt : Pos} {k : Nat} {mo mi no ni me : ED} (hu : X.A.units + 1 < cLine) (ho : PE X o (tE X.K W mo)) (hi : PE X i (tE X.K W mi)) (ho' : PE X o' (tE X.K W no)) (hi' : PE X i' (tE X.K W ni)) (he : PE X e (tE X.K W me)) (hc : X.calm = true := by rfl)
    (ha : ∀ v, assign (.Subscript o i tp) X.env v = (do
      let ov ← holding [v] (eval o X.env)
      let iv ← holding [v, ov] (eval i X.env)
      standAt tp
      holding [v, ov, iv] (setItem ov iv v)
      release [v, ov, iv] []) := by intro _; rfl)
    (ha' : ∀ v, assign (.Subscript o' i' tp') X.env v = (do
      let ov ← holding [v] (eval o' X.env)
      let iv ← holding [v, ov] (eval i' X.env)
      standAt tp'
      holding [v, ov, iv] (setItem ov iv v)
      release [v, ov, iv] []) := by intro _; rfl)
    (hs : swapsWithSole [.Tuple [.Subscript o i tp, .Subscript o' i' tp'] k tpt] e pos.line X.env = pure false := by rfl) (hw : swappedStores [.Tuple [.Subscript o i tp, .Subscript o' i' tp'] k tpt] e X.env = pure none := by rfl)
    (h1 : (assignEach [.Tuple [.Subscript o i tp, .Subscript o' i' tp'] k tpt] X.env).map (·.2) = [assign (.Tuple [.Subscript o i tp, .Subscript o' i' tp'] k tpt) X.env] := by rfl) :
    PS X (.Assign [.Tuple [.Subscript o i tp, .Subscript o' i' tp'] k tpt] e pos) (tS X.K W (sSub2 mo mi no ni me)) :=
  (ps_asg he (pg_tup hc (pgs_cons (pg_sub ho hi (set_md hu) ha) (pgs_cons (pg_sub ho' hi' (set_md hu) ha') pgs_nil))) hs hw h1).md fun En σ H ⟨ρ, loc, S, rl, hd, g⟩ => ⟨ρ, loc, S, rl, hd, GoodS.thn rl g fun dv S1 ρ1 H1 xv hd1 e1 r1 g1 => by
      obtain ⟨⟨v, w⟩, hp, g1⟩ := g1.need
      obtain rfl := pair2_eq hp
      obtain ⟨a, vs, rfl, h1, h2⟩ := r1.seqT
      obtain ⟨x, y, rfl, rx, ry⟩ := h2.two
      have rl1 := rl.ext e1
      refine ⟨a, [x, y], rfl, h1, rfl, ?_⟩
      refine ⟨x, [y], rfl, ρ1, loc, S1, rl1, hd1, GoodS.thn rl1 g1 fun dO S2 ρ2 H2 xo hd2 e2 r2 g2 => ?_⟩
      have rl2 := rl1.ext e2
      refine ⟨ρ2, loc, S2, rl2, hd2, GoodS.thn rl2 g2 fun dI S3 ρ3 H3 xi hd3 e3 r3 g3 => ?_⟩
      have rl3 := rl2.ext e3
      refine ⟨W, σ, ρ3, S3, dO, dI, v, hd3, r2.ext e3, r3, (rx.ext e2).ext e3, GoodS.thn rl3 g3 fun _ S4 ρ4 H4 _ hd4 e4 _ g4 => ?_⟩
      have rl4 := rl3.ext e4
      refine ⟨y, [], rfl, ρ4, loc, S4, rl4, hd4, GoodS.thn rl4 g4 fun dO S5 ρ5 H5 xo hd5 e5 r5 g5 => ?_⟩
      have rl5 := rl4.ext e5
      refine ⟨ρ5, loc, S5, rl5, hd5, GoodS.thn rl5 g5 fun dI S6 ρ6 H6 xi hd6 e6 r6 g6 => ?_⟩
      have rl6 := rl5.ext e6
      refine ⟨W, σ, ρ6, S6, dO, dI, w, hd6, r5.ext e6, r6, ((((ry.ext e2).ext e3).ext e4).ext e5).ext e6, GoodS.thn rl6 g6 fun _ S7 ρ7 H7 _ hd7 e7 _ g7 => ?_⟩
      exact ⟨rfl, g7 ρ7 H7 σ hd7 Ext.refl (rl6.ext e7)⟩⟩

/-- a, b, c = x, y, z -/
def three (ds : List D) : Option (D × D × D) := match ds with
  | [a, b, c] => some (a, b, c)
  | _ => none
theorem three_eq {ds : List D} {t : D × D × D} (h : three ds = some t) : ds = [t.1, t.2.1, t.2.2] := by
  unfold three at h
  split at h
  · cases h; rfl
  · cases h
def sPar3 (i j l : Nat) (ml : AD) : SD := fun loc S => (ml loc S).thn loc fun ds S1 => needS (three ds) fun t => .nx (((loc.set i (some t.1)).set j (some t.2.1)).set l (some t.2.2)) S1
theorem pms_par3 {i j l : Nat} {x y z : Str} {a b c : Expr} {ml : AD} {px py pz pt : Pos} {kt k2 pt2} (hc : X.calm = true) (hN : X.N.Nodup) (hi : X.N[i]? = some x) (hj : X.N[j]? = some y) (hl : X.N[l]? = some z) (hij : i ≠ j) (hil : i ≠ l) (hjl : j ≠ l)
    (hx : X.env.scope.names.lookup x = some .local) (hy : X.env.scope.names.lookup y = some .local) (hz : X.env.scope.names.lookup z = some .local) (ha : PA X [a, b, c] (tA X.K W ml))
    (hw : swappedStores [.Tuple [.Name x px, .Name y py, .Name z pz] kt pt] (.Tuple [a, b, c] k2 pt2) X.env = pure (some [x, y, z]))
    (hs : swapsWithSole [.Tuple [.Name x px, .Name y py, .Name z pz] kt pt] (.Tuple [a, b, c] k2 pt2) pos.line X.env = pure false := by rfl) :
    PS X (.Assign [.Tuple [.Name x px, .Name y py, .Name z pz] kt pt] (.Tuple [a, b, c] k2 pt2) pos) (tS X.K W (sPar3 i j l ml)) :=
  (ps_par3 hc hN hi hj hl hij hil hjl hx hy hz ha hw hs).md fun En σ H ⟨ρ, loc, S, rl, hd, g⟩ => ⟨ρ, loc, S, rl, hd, GoodS.thn rl g fun ds S1 ρ1 H1 xs hd1 e1 r1 g1 => by
      obtain ⟨t, ht, g2⟩ := g1.need
      obtain rfl := three_eq ht
      rw [IsL] at r1
      obtain ⟨v, r, rfl, i1, r1⟩ := r1
      obtain ⟨w, u, rfl, i2, i3⟩ := r1.two
      exact ⟨v, w, u, rfl, g2 ρ1 H1 _ hd1 Ext.refl ((((rl.ext e1).set i i1).set j i2).set l i3)⟩⟩

/-! ### sorted(set(pairs)) -/
def encP (p : Int × Int) : D := .tup [.int p.1, .int p.2]
def pairsD : List D → Option (List (Int × Int))
  | [] => some []
  | d :: r => match pair2 d, pairsD r with
    | some (.int x, .int y), some ps => some ((x, y) :: ps)
    | _, _ => none
theorem pairsD_eq : ∀ {ds : List D} {ps : List (Int × Int)}, pairsD ds = some ps → ds = ps.map encP
  | [], ps, h => by cases h; rfl
  | d :: r, ps, h => by
    rw [pairsD] at h
    split at h
    · rename_i x y qs h1 h2
      cases h
      rw [pair2_eq h1, pairsD_eq h2]
      rfl
    · cases h
theorem pairsD_of (ps : List (Int × Int)) : pairsD (ps.map encP) = some ps := by
  induction ps with
  | nil => rfl
  | cons p ps ih =>
    rw [List.map_cons, pairsD, ih]
    rfl
def codeP (p : Int × Int) : Int := p.1 * 64 + p.2
def unP2 (c : Int) : Int × Int := (c / 64, c % 64)
theorem unP2_code {p : Int × Int} (h : 0 ≤ p.2 ∧ p.2 < 64) : unP2 (codeP p) = p := by
  unfold unP2 codeP
  obtain ⟨x, y⟩ := p
  dsimp only at h ⊢
  rw [Prod.mk.injEq]
  omega
def inP (p : Int × Int) : Bool := decide (0 ≤ p.1 ∧ p.1 < 64) && decide (0 ≤ p.2 ∧ p.2 < 64)
def sortP (ps : List (Int × Int)) : List (Int × Int) := (sortU (ps.map codeP)).map unP2
def fSortSetP : D → Sto → Out D := fun d S => need (lstOf S d) fun ds => need (pairsD ds) fun ps => guardO (decide (ps.length < 64) && ps.all inP) (.ok (.lst ((sortP ps).map encP)) S)
theorem pairs_isL {K : PySem.W.Frag} {ρ : List Addr} {H : Hp} : ∀ {ps : List (Int × Int)} {vs : List V}, IsL K ρ H (ps.map encP) vs →
    ∃ ks : List (Addr × List Int), vs = ks.map (fun p => V.ref p.1) ∧ ks.map (·.2) = ps.map (fun p => [p.1, p.2]) ∧ ∀ q ∈ ks, ∃ x y, q.2 = [x, y] ∧ (x, y) ∈ ps ∧ Is K ρ H (encP (x, y)) (.ref q.1) ∧ SqT K H q.1 (q.2.map V.int)
  | [], vs, h => by
    rw [List.map_nil, IsL] at h
    subst h
    exact ⟨[], rfl, rfl, by simp⟩
  | p :: ps, vs, h => by
    rw [List.map_cons, IsL] at h
    obtain ⟨v, r, rfl, h1, h2⟩ := h
    obtain ⟨ks, rfl, e, hk⟩ := pairs_isL h2
    obtain ⟨a, us, rfl, h3, h4⟩ := Is.seqT h1
    obtain rfl := isL_ints (ns := [p.1, p.2]) h4
    refine ⟨(a, [p.1, p.2]) :: ks, rfl, by rw [List.map_cons, List.map_cons, e], fun q hq => ?_⟩
    rcases List.mem_cons.mp hq with rfl | hq
    · exact ⟨p.1, p.2, rfl, by simp, h1, h3⟩
    · obtain ⟨x, y, a1, a2, a3⟩ := hk q hq
      exact ⟨x, y, a1, by simp [a2], a3⟩
theorem isL_refs {K : PySem.W.Frag} {ρ : List Addr} {H : Hp} {f : Addr × List Int → D} : ∀ {L : List (Addr × List Int)}, (∀ q ∈ L, Is K ρ H (f q) (.ref q.1)) → IsL K ρ H (L.map f) (L.map fun q => V.ref q.1)
  | [], _ => IsL.nil
  | q :: L, h => IsL.cons (h q (by simp)) (isL_refs fun r hr => h r (by simp [hr]))
variable {a : Expr} {ma : ED} {p p2 q : Pos}
theorem sortSetP_md {K : PySem.W.Frag} {P : Program} {w : World} {σ : L2.St} {H : Hp} {Q : VK} (h : tE K W (mUn fSortSetP ma) σ H Q) :
    tCB (rSortedT K P w) (tCons (tCB (rSetOfT K P w) (tCons (tE K W ma) tNil)) tNil) σ H Q := by
  obtain ⟨ρ, loc, S, rl, hd, g⟩ := h
  refine ⟨ρ, loc, S, rl, hd, Good.bind g fun d S1 ρ1 H1 x hd1 e1 r1 g1 => ?_⟩
  obtain ⟨ds, h1, g1⟩ := Good.need g1
  obtain ⟨ps, h2, g2⟩ := Good.need g1
  obtain ⟨c, g3⟩ := Good.guard g2
  rw [Bool.and_eq_true, decide_eq_true_eq, List.all_eq_true] at c
  obtain rfl := pairsD_eq h2
  obtain ⟨l, vs, rfl, h3, h4⟩ := hd1.lstOf r1 h1
  obtain ⟨ks, rfl, ek, hk⟩ := pairs_isL h4
  have lk : ks.length = ps.length := by
    have := congrArg List.length ek
    simpa using this
  refine ⟨l, ks, rfl, SqL.of h3, fun q hq => (hk q hq).choose_spec.choose_spec.2.2.2, by omega, fun b L nb sub all => ?_⟩
  obtain ⟨hd2, e2⟩ := hd1.fresh (o := SetTO P w b L) nb
  have bd : ∀ q ∈ ks, ∃ x y, q.2 = [x, y] ∧ (x, y) ∈ ps ∧ (0 ≤ x ∧ x < 64) ∧ (0 ≤ y ∧ y < 64) ∧ Is K ρ1 H1 (encP (x, y)) (.ref q.1) := fun q hq => by
    obtain ⟨x, y, a1, a2, a3, _⟩ := hk q hq
    have := c.2 _ a2
    unfold inP at this
    rw [Bool.and_eq_true, decide_eq_true_eq, decide_eq_true_eq] at this
    exact ⟨x, y, a1, a2, this.1, this.2, a3⟩
  refine ⟨b, L, 2, 64, rfl, upd_same, fun q hq => ?_, by decide, fun q hq => ?_, fun L' r pm nd few pw nr => ?_⟩
  · obtain ⟨x, y, a1, a2, a3, a4⟩ := hk q (sub q hq)
    exact SqT.sub (fun z o e => by rw [upd_ne (ne_of_none e nb)]; exact e) a4
  · obtain ⟨x, y, a1, a2, a3, a4, _⟩ := bd q (sub q hq)
    rw [a1]
    exact ⟨rfl, by intro n hn; simp at hn; rcases hn with rfl | rfl <;> assumption⟩
  · have inL : ∀ q ∈ L', q ∈ ks := fun q hq => sub q (pm.subset hq)
    have ec : L'.map (fun q => TS.code 64 q.2) = sortU (ps.map codeP) := by
      refine lt_uniq ?_ (sortU_lt _) fun k => ?_
      · rw [List.pairwise_map]
        have nd' : L'.Pairwise fun q r => q.2 ≠ r.2 := by
          have := nd
          unfold List.Nodup at this
          rw [List.pairwise_map] at this
          exact this
        refine List.Pairwise.imp_of_mem (fun {q r} hq hr h => ?_) (pw.and nd')
        obtain ⟨x, y, a1, _, a3, a4, _⟩ := bd q (inL q hq)
        obtain ⟨x', y', b1, _, b3, b4, _⟩ := bd r (inL r hr)
        rw [a1, b1] at h ⊢
        have := pair_lt h.1 h.2 a3 a4 b3 b4
        rw [code_pair, code_pair]
        omega
      · rw [sortU_mem, List.mem_map, List.mem_map]
        constructor
        · rintro ⟨q, hq, rfl⟩
          obtain ⟨x, y, a1, a2, _⟩ := bd q (inL q hq)
          exact ⟨(x, y), a2, by rw [a1, code_pair]; rfl⟩
        · rintro ⟨pr, hpr, rfl⟩
          have : [pr.1, pr.2] ∈ ks.map (·.2) := by rw [ek]; exact List.mem_map.mpr ⟨pr, hpr, rfl⟩
          obtain ⟨q0, hq0, e0⟩ := List.mem_map.mp this
          obtain ⟨q, hq, e⟩ := List.mem_map.mp (all q0 hq0)
          refine ⟨q, pm.mem_iff.mpr hq, ?_⟩
          rw [e, e0, code_pair]
          rfl
    have er : ((sortP ps).map encP) = L'.map fun q => encP (unP2 (TS.code 64 q.2)) := by
      unfold sortP
      rw [← ec, List.map_map, List.map_map]
      rfl
    have isl : IsL K ρ1 (upd H1 b (SetTO P w b L)) ((sortP ps).map encP) (L'.map fun q => V.ref q.1) := by
      rw [er]
      refine isL_refs fun q hq => ?_
      obtain ⟨x, y, a1, a2, a3, a4, a5⟩ := bd q (inL q hq)
      have : unP2 (TS.code 64 q.2) = (x, y) := by
        rw [a1, code_pair]
        exact unP2_code (p := (x, y)) a4
      rw [this]
      exact a5.ext e2
    obtain ⟨h5, e5, r5⟩ := hd2.newL nr isl
    exact g3 ρ1 _ _ h5 (e2.trans e5) r5
theorem pm_sortSetP (hu : X.A.units + 64 < cLine) (hg : Gl X "sorted") (hm : X.mg "sorted" = none) (hg2 : Gl X "set") (hm2 : X.mg "set" = none) (ha : PE X a (tE X.K W ma)) (hc : X.calm = true := by rfl)
    (n1 : starEach [a] X.env = (false, eval a X.env) :: starEach [] X.env := by rfl) (n2 : starEach [.Call (.Name "set" p2) [a] [] q] X.env = (false, eval (.Call (.Name "set" p2) [a] [] q) X.env) :: starEach [] X.env := by rfl) :
    PE X (.Call (.Name "sorted" p) [.Call (.Name "set" p2) [a] [] q] [] pos) (tE X.K W (mUn fSortSetP ma)) :=
  (pe_callB (cr_sortedT hc) hg hm boot_sorted (pa_cons (pe_callTy (cr_setOfT hc hu) hg2 hm2 PyProof.Rows.boot_set (pa_cons ha pa_nil n1) (he := n1)) pa_nil n2) (he := n2)).md fun σ H Q h => sortSetP_md h
end
end Md

set_option Elab.async false
set_option linter.all false
set_option maxRecDepth 100000
set_option maxHeartbeats 2000000
/-! Md17: len(set(t)), t a tuple of ints; and more. -/
namespace Md
open PySem PySem.Spec PyProof.Rows L2
section
variable {P : Program} {w : World} {A : Around} {E : Value → Shared → Prop} {s : Shared}
theorem set_of_tuple {l : Addr} {its : Array Value} (ns : List Int) {Q : Value → Shared → Prop} (calm : A.handled = none) (isl : s.heap.IsTuple l its) (vint : IntsAre its.toList ns) (few : ns.length + 1 < scanBound)
    (q : ∀ (g : Heap) (t c : Nat), SetR w g s.heap.objs.size (fun j => decide (j ∈ ns)) c → c ≤ ns.length → (∀ b o, s.heap.get? b = some o → g.get? b = some o) → Q (.ref s.heap.objs.size) { s with heap := g, toks := t }) :
    wpAny (model P w) A (call (.type "set") [.ref l]) Q E s := by
  have cnt : its.size = ns.length := by
    have z := vint.length
    rwa [Array.length_toList] at z
  obtain ⟨c0, tl, hmro⟩ := F.called_set.mro
  have f1 := F.called_set.made
  have f2 := F.called_set.sub
  have f3 := F.called_set.notType
  have f4 := F.called_set.canCreate
  have f5 := F.typeCall_set_1 (.ref l)
  refine wpAny_call (codeAny_of_tree ?_)
  show wpAny _ _ (callAny (.type "set") _) _ _ _
  refine wpAny_pure ⟨Code.quiet_builtin _ (by decide +kernel), ?_⟩
  refine codeAny_builtin F.entry_type_call ?_
  rw [Around.under_plain (weight_type_call_type "set" [.ref l] []) rfl]
  repeat (any_goals (first | assumption | wp_step))
  let h1 : Heap := s.heap.push (set0 w)
  have made := code_set_led1 (P := P) (A := A.in1) (s := s) (.ref l) (E := E) (Q₁ := fun v s' => v = .ref s.heap.objs.size ∧ s' = { s with heap := h1 }) ⟨rfl, rfl⟩
  refine codeAny_mono made fun r s1 hr => ?_
  match r, hr with
  | .error e, hr => exact hr
  | .ok (.ret v), hr =>
    obtain ⟨rfl, rfl⟩ := hr
    have at1 : h1.get? s.heap.objs.size = some (set0 w) := Heap.get?_push_size _ rfl
    have ty1 : Shared.TypeIs { s with heap := h1 } (.ref s.heap.objs.size) "set" := ⟨_, at1, rfl⟩
    have f6 := F.called_set.init.lookup
    have f7 := F.called_set.init.bind (.ref s.heap.objs.size)
    repeat (any_goals (first | assumption | wp_step))
    let fin : Value → Shared → Prop := fun r s2 => r = .none ∧ ∃ g t c, s2 = { s with heap := g, toks := t } ∧ SetR w g s.heap.objs.size (fun j => decide (j ∈ ns)) c ∧ c ≤ ns.length ∧ ∀ b o, s.heap.get? b = some o → g.get? b = some o
    refine codeAny_mono (codeAny_call_builtin (R := wants fin E) F.called_set.init.plain F.entry_set_init (check_set_init_1 ty1 ?_)) fun r2 s2 hr2 => ?_
    · obtain ⟨ol, hol, hcl, nl, hdl⟩ := isl
      obtain ⟨ocls, odict, odata, oslots⟩ := ol
      simp only at hcl hdl
      subst hcl hdl
      have isl1 : h1.IsTuple l its := ⟨_, Heap.get?_push_of_some _ hol, rfl, nl, rfl⟩
      have g1 := F.sub_tuple_set
      have g2 := F.sub_tuple_frozenset
      have g3 : (Value.type "tuple" == Value.type "dict") = false := by decide
      have below : l < s.heap.objs.size := Heap.lt_size hol
      unfold Builtin.«set.__init__» noKeywords Builtin.Frozenset.updateFrom
      generalize hPI : pyIter = PI
      wp_walk
      subst hPI
      refine wpAny_pyIter_tuple isl1 (wpAny_bind (wpAny_runValue ?_))
      have sz1 : h1.objs.size = s.heap.objs.size + 1 := Heap.size_push ..
      have apart : l ≠ h1.objs.size := by rw [sz1]; exact Nat.ne_of_lt (Nat.lt_succ_of_lt below)
      have out : s.heap.objs.size ∉ [h1.objs.size, l] := by
        rw [sz1]
        simp only [List.mem_cons, List.not_mem_nil, or_false, not_or]
        exact ⟨Nat.ne_of_lt (Nat.lt_succ_self _), fun z => Nat.lt_irrefl _ (z ▸ below)⟩
      have each : ∀ (i : Nat) (v : Value), its[i]? = some v → ∃ k t, ns[i]? = some k ∧ v = .int k t := by
        intro i v hv
        have lt : i < ns.length := cnt ▸ (Array.getElem?_eq_some_iff.mp hv).1
        obtain ⟨t, e⟩ := vint.int_at i v (by rw [Array.getElem?_toList]; exact hv)
        refine ⟨ns[i], t, List.getElem?_eq_getElem lt, ?_⟩
        rw [e, List.getD_eq_getElem?_getD, List.getElem?_eq_getElem lt]
        rfl
      have calm3 : A.in1.in1.in1.handled = none := by simp [calm]
      refine set_update_ints ((Walks.tuple calm3 _ l apart its).toS) s.heap.objs.size out ns cnt few each its.size 0 _ (Nat.sub_zero _) (Nat.zero_le _) ⟨⟨_, Heap.get?_push_size _ rfl, rfl, rfl⟩, isl1.push _⟩ ?start ?stop
      case start => exact ⟨0, Nat.le_refl 0, setR_new_at (Heap.get?_push_of_some _ at1)⟩
      case stop =>
        rintro ⟨g, gn, dr, tk, os⟩ c hm hc hS
        obtain rfl : gn = s.gens := hm.gens
        obtain rfl : dr = s.drawn := hm.drawn
        obtain rfl : os = s.os := hm.os
        show wpAny _ _ _ _ _ _
        refine wpAny_pure ?_
        show wpAny _ _ (ret Value.none) _ _ _
        rw [cnt] at hc
        refine wpAny_pure ⟨rfl, g, tk, c, rfl, hS, hc, fun b o e => ?_⟩
        have lb : b < s.heap.objs.size := Heap.lt_size e
        refine hm.heap b o ?_ (Heap.get?_push_of_some _ (Heap.get?_push_of_some _ e))
        show b ∉ [s.heap.objs.size, h1.objs.size]
        rw [sz1]
        simp only [List.mem_cons, List.not_mem_nil, or_false, not_or]
        exact ⟨Nat.ne_of_lt lb, Nat.ne_of_lt (Nat.lt_succ_of_lt lb)⟩
    · match r2, hr2 with
      | .error e, hr2 => exact hr2
      | .ok (.ret v), hr2 =>
        obtain ⟨rfl, g, t, c, rfl, z1, z2, z3⟩ := hr2
        repeat (any_goals (first | assumption | wp_step))
        exact q _ _ _ z1 z2 z3
end
section
variable {X : Cx} {W : WX} {a : Expr} {ma : ED} {pos p p2 q : Pos}
def rSetTp (K : PySem.W.Frag) (w : World) : List V → Hp → VK → Prop := fun vs H Q => ∃ (l : Addr) (ns : List Int), vs = [.ref l] ∧ SqT K H l (ns.map V.int) ∧ ns.length ≤ 4000 ∧ ∀ p, H p = none → Q (.ref p) (upd H p (SetO w p (fun j => decide (j ∈ ns)) (sortU ns).length))
theorem cr_setTp (hc : X.calm = true) : CallR X (.type "set") (rSetTp X.K X.w) := by
  intro pins s σ H vs us Q I r ⟨l, ns, ev, hl, few, k⟩
  subst ev
  rw [Vals.ref1 r]
  obtain ⟨its, rv, pl, _⟩ := I.tuple hl
  refine set_of_tuple (P := X.prog) ns (I.ok.hd hc) (its := its.toArray) ⟨_, pl.choose_spec.1, pl.choose_spec.2.1, pl.choose_spec.2.2.choose, pl.choose_spec.2.2.choose_spec⟩ (by simpa using RZ.intsAre_vals rv) (Nat.lt_of_le_of_lt (Nat.succ_le_succ few) (by decide)) fun g t c hS _ keep => ?_
  have hcn : c = (sortU ns).length := by
    obtain ⟨o, es, ep, tb, _, _, _, _, nd, mem, _, _, sz, _⟩ := hS
    rw [← sz, ← Array.length_toList, ← List.length_map (f := keyOf)]
    have m : ∀ k, k ∈ es.toList.map keyOf ↔ k ∈ sortU ns := fun k => by rw [sortU_mem, ← mem k, decide_eq_true_eq]
    have nd2 : (sortU ns).Nodup := (sortU_lt ns).imp fun h => by omega
    refine Nat.le_antisymm (nd.length_le_of_subset fun k hk => (m k).mp hk) (nd2.length_le_of_subset fun k hk => (m k).mpr hk)
  subst hcn
  exact ⟨.ref _, upd H s.heap.objs.size (SetO X.w s.heap.objs.size (fun j => decide (j ∈ ns)) (sortU ns).length), I.laid (t' := t) (fun b u e => keep b u e) (Nat.le_refl _) (setO_new hS), rfl, k _ (I.hok.fresh (Nat.le_refl _))⟩
def rLenSO (w : World) : List V → Hp → VK → Prop := fun vs H Q => ∃ (a : Addr) (S : Int → Bool) (n : Nat), vs = [.ref a] ∧ H a = some (SetO w a S n) ∧ n ≤ 4000 ∧ Q (.int n) H
theorem cr_lenSO : CallR X (.builtin "len") (rLenSO X.w) := by
  intro pins s σ H vs us Q I r ⟨a, S, n, ev, ha, hz, k⟩
  subst ev
  rw [Vals.ref1 r]
  obtain ⟨o, es, ep, t, ho, hex, hd, _, _, _, _, hf, hn, _⟩ := setO_get I ha
  exact call_len_set ho hex hd hf (by rw [hn] <;> omega) ⟨.int n, H, I.tok _, ⟨_, by rw [hn]⟩, k⟩
def tupOf : D → Option (List D)
  | .tup ds => some ds
  | _ => none
theorem tupOf_eq {d : D} {ds : List D} (h : tupOf d = some ds) : d = .tup ds := by
  unfold tupOf at h
  split at h
  · cases h; rfl
  · cases h
def fLenSet : D → Sto → Out D := fun d S => need (tupOf d) fun ds => need (intsD ds) fun ns => guardO (decide (ns.length ≤ 4000)) (.ok (.int ((sortU ns).length : Nat)) S)
theorem lenSet_md {K : PySem.W.Frag} {w : World} {σ : L2.St} {H : Hp} {Q : VK} (h : tE K W (mUn fLenSet ma) σ H Q) :
    tCB (rLenSO w) (tCons (tCB (rSetTp K w) (tCons (tE K W ma) tNil)) tNil) σ H Q := by
  obtain ⟨ρ, loc, S, rl, hd, g⟩ := h
  refine ⟨ρ, loc, S, rl, hd, Good.bind g fun d S1 ρ1 H1 x hd1 e1 r1 g1 => ?_⟩
  obtain ⟨ds, h1, g2⟩ := Good.need g1
  obtain ⟨ns, h2, g3⟩ := Good.need g2
  obtain ⟨c, g4⟩ := Good.guard g3
  have few := of_decide_eq_true c
  obtain rfl := tupOf_eq h1
  obtain rfl := intsD_eq h2
  obtain ⟨l, vs, rfl, h3, h4⟩ := r1.seqT
  obtain rfl := isL_ints h4
  refine ⟨l, ns, rfl, h3, few, fun p np => ?_⟩
  obtain ⟨hd2, e2⟩ := hd1.fresh (o := SetO w p (fun j => decide (j ∈ ns)) (sortU ns).length) np
  have lz : (sortU ns).length ≤ ns.length := by
    refine List.Nodup.length_le_of_subset ?_ fun x hx => sortU_mem.mp hx
    exact (sortU_lt ns).imp fun h => by omega
  exact ⟨p, _, _, rfl, upd_same, by omega, g4 ρ1 _ _ hd2 e2 (by rw [Is])⟩
theorem pm_lenSet (hg : Gl X "len") (hm : X.mg "len" = none) (hg2 : Gl X "set") (hm2 : X.mg "set" = none) (ha : PE X a (tE X.K W ma)) (hc : X.calm = true := by rfl)
    (n1 : starEach [a] X.env = (false, eval a X.env) :: starEach [] X.env := by rfl) (n2 : starEach [.Call (.Name "set" p2) [a] [] q] X.env = (false, eval (.Call (.Name "set" p2) [a] [] q) X.env) :: starEach [] X.env := by rfl) :
    PE X (.Call (.Name "len" p) [.Call (.Name "set" p2) [a] [] q] [] pos) (tE X.K W (mUn fLenSet ma)) :=
  (pe_callB cr_lenSO hg hm Md.boot_len (pa_cons (pe_callTy (cr_setTp hc) hg2 hm2 PyProof.Rows.boot_set (pa_cons ha pa_nil n1) (he := n1)) pa_nil n2) (he := n2)).md fun σ H Q h => lenSet_md h
end
end Md

set_option Elab.async false
set_option linter.all false
set_option maxRecDepth 100000
set_option maxHeartbeats 2000000
/-! Md18: sorted of a tuple, a tuple turned round, {}. -/
namespace Md
section
open PySem PySem.W PySem.Calls PyProof.Rows
variable {prog : Program} {w : World} {A : Around} {E : Value → Shared → Prop} {s : Shared}
theorem collectT {l : Addr} {us : List Value} {Q : List Value → Shared → Prop} (it : s.heap.IsTuple l us.toArray)
    (q : Q us { s with heap := (s.heap.push (seqObj "list" #[] 0)).update s.heap.objs.size (Obj.mapSeq (· ++ us.toArray)) }) (few : us.length ≤ sizeLine) : wpAny (model prog w) A (collect (.ref l)) Q E s := by
  obtain ⟨ob, g1, g2, m, g3⟩ := id it
  have old : (s.heap.push (seqObj "list" #[] 0)).get? l = some ob := Heap.get?_push_of_some _ g1
  have new : (s.heap.push (seqObj "list" #[] 0)).get? s.heap.objs.size = some (seqObj "list" #[] 0) := Heap.get?_push_size _ rfl
  unfold collect
  refine wpAny_bind (wpAny_runValue (codeAny_builtin entry_proto_collect' (wpAny_bind (wpAny_newList (wpAny_pure ⟨Code.quiet_builtin _ (by decide +kernel), codeAny_builtin entry_list_iadd' ?_⟩)))))
  show wpAny _ _ (Builtin.List.listExtendWith (.ref s.heap.objs.size) (.ref l) (.ref s.heap.objs.size)) _ _ _
  unfold Builtin.List.listExtendWith
  refine wpAny_bind (wpAny_typeOf (T := "tuple") ⟨ob, old, g2⟩ ?_)
  have same : (Value.type "tuple" == Value.type "tuple") = true := by decide
  rw [if_pos (by rw [same, Bool.or_true])]
  refine wpAny_bind (listItems_at old g3 (wpAny_bind (listItems_at (xs := #[]) (n := 0) new rfl ?_)))
  rw [if_neg (by simp)]
  refine wpAny_bind (listUpdate_at (xs := #[]) (n := 0) new rfl (wpAny_pure ?_) (Nat.zero_le _) (by rw [Array.size_append, List.size_toArray]; simp; omega))
  show wpAny (model prog w) A (load s.heap.objs.size >>= _) Q E { s with heap := (s.heap.push (seqObj "list" #[] 0)).update s.heap.objs.size (Obj.mapSeq (· ++ us.toArray)) }
  refine wpAny_bind (wpAny_load (get?_update_seq new _) ?_)
  show wpAny _ _ (pure ((#[] : Array Value) ++ us.toArray).toList) Q E _
  rw [show ((#[] : Array Value) ++ us.toArray).toList = us by simp]
  exact wpAny_pure q
theorem sortedT_data {β : Type} {bs : List β} {enc : β → PyData} {R : Value → β → Prop} {l : Addr} {us : List Value} {Q : Value → Shared → Prop} (it : s.heap.IsTuple l us.toArray) (e : EachIs R us bs) (er : EachIs (fun v b => ∃ as, Reads s.heap v (enc b) as) us bs) (al : AllAlike (bs.map enc)) (hk : Sortable (bs.map enc)) (few : bs.length ≤ sizeLine)
    (hu : ∀ b, b ∈ bs → A.units + 2 + (enc b).depth < cLine) (h : ∀ out, out.length = bs.length → EachIs R out (bs.mergeSort (dataLe false enc)) → Q (.ref (s.heap.objs.size + 1)) { s with heap := sortedAll s.heap us (List.toArray out) }) : wpAny (model prog w) A (call (.builtin "sorted") [.ref l]) Q E s := by
  have er' : EachIs (fun v b => ∃ as, Reads (sortingHeap (copyHeap s.heap us) (s.heap.objs.size + 1) us) v (enc b) as) us bs := er.mono fun _ _ ⟨as, r⟩ => ⟨as, PyProof.Rows.Reads.keeps (fun _ _ => sorting_copy_old) r⟩
  have few' : us.length ≤ sizeLine := by rw [e.length]; exact few
  have srt := SortsAt.data (prog := prog) (w := w) (A := A.in1.in1) (s := { s with heap := sortingHeap (copyHeap s.heap us) (s.heap.objs.size + 1) us }) (each_map (R := fun v d => ∃ as, Reads (sortingHeap (copyHeap s.heap us) (s.heap.objs.size + 1) us) v d as) enc er') al hk (bound_map hu)
  have fin := h _ (by rw [sortVals_length false rfl]; exact e.length) (sortVals_data false e er' al)
  refine call_function_entry_kw kind_sorted plain_sorted entry_sorted (args_sorted1 _) ?_
  unfold Builtin.«sorted»
  refine wpAny_bind (m := checkCount "sorted" 1 1 _) (wpAny_pure (wpAny_bind (collectT it (wpAny_bind (wpAny_newList ?_ few')) few')))
  have sz : ((s.heap.push (seqObj "list" #[] 0)).update s.heap.objs.size (Obj.mapSeq (· ++ us.toArray))).objs.size = s.heap.objs.size + 1 := by rw [Heap.size_update, size_push']
  show wpAny _ _ _ _ _ { s with heap := copyHeap s.heap us }
  rw [sz]
  refine wpAny_bind (wpAny_holding (wpAny_call_entry_kw slot_list_sort ⟨_, copyHeap_at s.heap us, rfl⟩ entry_list_sort ?body (args_list_sort _)))
  case body =>
    show wpAny (model prog w) A.in1.in1 (Builtin.«list.sort» ⟨[.ref (s.heap.objs.size + 1)], []⟩) _ _ _
    exact list_sort_vals (s := { s with heap := copyHeap s.heap us }) (copyHeap_at s.heap us) srt few' ⟨_, rfl, wpAny_pure ⟨_, rfl, fin⟩⟩
end
open PySem L2
section
variable {X : Cx} {W : WX} {a : Expr} {ma : ED} {pos p p2 q : Pos}
/-- sorted of a list or of a tuple of ints -/
def fSortedT : List D → Sto → Out D
  | [.tup ds], S => need (intsD ds) fun ns => guardO (decide (ns.length ≤ 1000000)) (.ok (.lst ((ns.map D.int).mergeSort leD)) S)
  | ds, S => fSorted ds S
open PySem.W in
theorem cm_sortedT (hu : X.A.units + 64 < cLine) : CallR X (.builtin "sorted") (rCM X.K fSortedT) := fun pins s σ H xs us Q I r ⟨W, σ', ρ, S, ds, hd, r0, g0⟩ => by
  unfold fSortedT at g0
  split at g0
  · rename_i es
    obtain ⟨ns, h2, g2⟩ := g0.need
    obtain ⟨hk, g⟩ := g2.guard
    have few := of_decide_eq_true hk
    obtain rfl := intsD_eq h2
    obtain ⟨x, rfl, r1⟩ := r0.one
    obtain ⟨b, vs, rfl, h3, i3⟩ := r1.seqT
    have hp : ∀ d ∈ ns.map D.int, pyD d = some (encD d) := fun d hd => by
      obtain ⟨i, _, rfl⟩ := List.mem_map.mp hd
      rfl
    obtain ⟨its, rv, ⟨ob, ho, hc, n, hdd⟩, hz⟩ := I.tuple h3
    obtain ⟨e1, e2⟩ := each_reads (K := X.K) I i3 rv hp
    rw [Vals.ref1 r]
    refine sortedT_data (l := b) (us := its) ⟨ob, ho, hc, n, hdd⟩ e1 e2 (fun p mp q mq => ?_) (.inr fun p mp => ?_) (by rw [← i3.length]; exact hz) (fun c hc => ?_) fun out h4 h5 => ?_
    · obtain ⟨d, hd, rfl⟩ := List.mem_map.mp mp
      obtain ⟨i, _, rfl⟩ := List.mem_map.mp hd
      obtain ⟨d, hd, rfl⟩ := List.mem_map.mp mq
      obtain ⟨j, _, rfl⟩ := List.mem_map.mp hd
      rfl
    · obtain ⟨d, hd, rfl⟩ := List.mem_map.mp mp
      obtain ⟨i, _, rfl⟩ := List.mem_map.mp hd
      refine ⟨fun e => ?_, fun xs e => ?_⟩ <;> cases e
    · obtain ⟨i, _, rfl⟩ := List.mem_map.mp hc
      show X.A.units + 2 + 0 < cLine
      omega
    · obtain ⟨ws, i5, v5⟩ := each_back h5
      obtain ⟨ep, he'⟩ := PyProof.Rows.sortedAll_at s.heap its out.toArray
      have np : H (s.heap.objs.size + 1) = none := I.hok.fresh (Nat.le_succ _)
      have hlen : ws.length ≤ sizeLine := by
        rw [i5.length, List.length_mergeSort, ← i3.length]; exact hz
      obtain ⟨h6, e6, r6⟩ := hd.newL np i5
      exact ⟨.ref _, upd H (s.heap.objs.size + 1) (.lst ws), I.laid (t' := s.toks) (fun _ _ => PyProof.Rows.sortedAll_old) (Nat.le_succ _) ⟨hlen, out, ep, v5, he'⟩, rfl, g ρ _ _ h6 e6 r6⟩
  · exact cm_sorted hu pins s σ H xs us Q I r ⟨W, σ', ρ, S, _, hd, r0, g0⟩
/-- {} that nobody changes -/
def mEdc : ED := fun _ S => .ok .edc S
theorem pm_edc : PE X (.Dict [] [] pos) (tE X.K W mEdc) := pe_dnewK.md fun σ H Q ⟨ρ, loc, S, rl, hd, g⟩ p np => by
  obtain ⟨h4, e4⟩ := hd.fresh (o := .dK []) np
  exact g ρ _ _ h4 e4 (by rw [Is]; exact ⟨p, rfl, hd.out np, upd_same⟩)
end
end Md

set_option Elab.async false
set_option linter.all false
set_option maxRecDepth 100000
set_option maxHeartbeats 2000000
/-! Md19: repr of tuples with {}; a tuple turned round; functions as values. -/
namespace Md
open PySem L2
mutual
def pyR : D → Option PyData
  | .non => some .none
  | .bl b => some (.bool b)
  | .int i => some (.int i)
  | .str x => some (.str x)
  | .tup ds => (pyRL ds).map .tuple
  | .edc => some (.dict [])
  | .lsx ds => (pyRL ds).map .list
  | _ => none
def pyRL : List D → Option (List PyData)
  | [] => some []
  | d :: ds => (pyR d).bind fun p => (pyRL ds).map (p :: ·)
end
section
variable {X : Cx} {pins : List (Addr × Obj)} {σ : St} {H : Hp} {s : Shared} {ρ : List Addr}
mutual
theorem pyR_reads (I : Inv X pins σ H s) : ∀ (d : D) (v : V) (u : Value) (p : PyData), pyR d = some p → Is X.K ρ H d v → RelV v u → ∃ as, Reads s.heap u p as ∧ sysModules ∉ as
  | .non, _, _, _, h, r, rv => by rw [Is] at r; subst r; rw [pyR] at h; cases h; cases rv; exact ⟨_, .none, by simp⟩
  | .bl b, _, _, _, h, r, rv => by rw [Is] at r; subst r; rw [pyR] at h; cases h; cases rv; exact ⟨_, .bool b, by simp⟩
  | .int i, _, _, _, h, r, rv => by rw [Is] at r; subst r; rw [pyR] at h; cases h; obtain ⟨t, rfl⟩ := rv; exact ⟨_, .int i t, by simp⟩
  | .str x, _, _, _, h, r, rv => by rw [Is] at r; subst r; rw [pyR] at h; cases h; obtain ⟨t, rfl⟩ := rv; exact ⟨_, .str x t, by simp⟩
  | .tup ds, _, _, _, h, r, rv => by
    rw [pyR] at h
    obtain ⟨ps, h3, rfl⟩ := Option.map_eq_some_iff.mp h
    obtain ⟨a, vs, rfl, h1, h2⟩ := r.seqT
    cases rv
    obtain ⟨its, rvs, ⟨o, ho, hc, n, hd⟩, _⟩ := I.tuple h1
    obtain ⟨as, hr, hn⟩ := pyRL_reads I ds vs its ps h3 h2 rvs
    exact ⟨as, .tuple ho hc hd (by simpa using hr), hn⟩
  | .lsx ds, _, _, _, h, r, rv => by
    rw [pyR] at h
    obtain ⟨ps, h3, rfl⟩ := Option.map_eq_some_iff.mp h
    rw [Is] at r
    obtain ⟨a, vs, rfl, ⟨_, na⟩, h1, h2⟩ := r
    cases rv
    obtain ⟨its, rvs, ⟨o, n, ho, hc, _, hd⟩, _⟩ := I.list (SqL.of h1)
    obtain ⟨as, hr, hn⟩ := pyRL_reads I ds vs its ps h3 h2 rvs
    refine ⟨_, Reads.list ho hc hd (by simpa using hr), ?_⟩
    intro z
    simp at z
    rcases z with z | z
    · exact na z.symm
    · exact hn z
  | .edc, _, _, _, h, r, rv => by
    rw [pyR] at h
    cases h
    rw [Is] at r
    obtain ⟨a, rfl, _, h1⟩ := r
    cases rv
    obtain ⟨_, ns, vs, kv, o, es, ep, ho, hx, hd, _, pr, _⟩ := dk_of I.hok h1
    cases kv
    have e0 : es.toList = [] := by
      cases hq : es.toList with
      | nil => rfl
      | cons e r => rw [hq] at pr; cases pr
    refine ⟨_, Reads.dict (as := []) (bs := []) ho hx.1 hd (by rw [e0]; exact .nil) (by rw [e0]; exact .nil), ?_⟩
    intro z
    simp at z
    subst z
    simp at ns
  | .adr _, _, _, _, h, _, _ => by rw [pyR] at h <;> first | cases h | (intros; contradiction)
  | .ref _, _, _, _, h, _, _ => by rw [pyR] at h <;> first | cases h | (intros; contradiction)
  | .scr _, _, _, _, h, _, _ => by rw [pyR] at h <;> first | cases h | (intros; contradiction)
  | .fn _, _, _, _, h, _, _ => by rw [pyR] at h <;> first | cases h | (intros; contradiction)
  | .lst _, _, _, _, h, _, _ => by rw [pyR] at h <;> first | cases h | (intros; contradiction)
theorem pyRL_reads (I : Inv X pins σ H s) : ∀ (ds : List D) (vs : List V) (us : List Value) (ps : List PyData), pyRL ds = some ps → IsL X.K ρ H ds vs → Vals vs us → ∃ as, ReadsAll s.heap us ps as ∧ sysModules ∉ as
  | [], _, _, _, h, r, rv => by
    rw [IsL] at r
    subst r
    rw [pyRL] at h
    cases h
    cases rv
    exact ⟨_, .nil, by simp⟩
  | d :: ds, _, _, _, h, r, rv => by
    rw [IsL] at r
    obtain ⟨v, t, rfl, h1, h2⟩ := r
    rw [pyRL] at h
    obtain ⟨p, h3, h4⟩ := Option.bind_eq_some_iff.mp h
    obtain ⟨ps, h5, rfl⟩ := Option.map_eq_some_iff.mp h4
    cases rv with
    | cons r1 r2 =>
      obtain ⟨as, q1, n1⟩ := pyR_reads I d v _ p h3 h1 r1
      obtain ⟨bs, q2, n2⟩ := pyRL_reads I ds t _ ps h5 h2 r2
      exact ⟨_, .cons q1 q2, by rw [List.mem_append]; rintro (z | z); exact n1 z; exact n2 z⟩
end
end
def shownE (p : PyData) : Bool := p.showable && decide (p.depth ≤ 40) && (p.leavesShort 400 && decide (p.bulk ≤ 30000))
def reprE (d : D) : Option Str := match d with
  | .tup ds => (pyR (.tup ds)).bind fun p => if shownE p then some p.shown else none
  | .edc => some (PyData.dict []).shown
  | .lsx ds => (pyR (.lsx ds)).bind fun p => if shownE p then some p.shown else none
  | _ => none
def reprD2 (S : Sto) (d : D) : Option Str := match reprD S d with
  | some x => some x
  | none => reprE d
def fReprE : List D → Sto → Out D
  | [d], S => need (reprD2 S d) fun x => .ok (.str x) S
  | _, _ => .no
section
variable {X : Cx} {W : WX} {a e : Expr} {ma : ED} {ml : AD} {es : List Expr} {pos p p2 q : Pos}
theorem cm_reprE (hg : X.A.guards = some []) (hu : X.A.units + 64 < cLine) : CallR X (.builtin "repr") (rCM X.K fReprE) := fun pins s σ H xs us Q I r ⟨W, σ', ρ, S, ds, hd, r0, g0⟩ => by
  match ds, r0, g0 with
  | [d], r0, g0 =>
    have g0 : Good X.K W σ' (Is X.K) Q ρ H (need (reprD2 S d) fun x => .ok (.str x) S) := g0
    unfold reprD2 at g0
    cases hq : reprD S d with
    | some x =>
      rw [hq] at g0
      refine cm_repr hg hu pins s σ H xs us Q I r ⟨W, σ', ρ, S, [d], hd, r0, ?_⟩
      show Good X.K W σ' (Is X.K) Q ρ H (need (reprD S d) fun x => .ok (.str x) S)
      rw [hq]
      exact g0
    | none =>
      rw [hq] at g0
      obtain ⟨x, hx, g⟩ := g0.need
      obtain ⟨v, rfl, r1⟩ := r0.one
      obtain ⟨u, rfl, ru⟩ := vals1 r
      have key : ∀ p : PyData, pyR d = some p → shownE p = true → p.shown = x → (∃ b, v = .ref b) → wpAny (model X.prog X.w) X.A (call (.builtin "repr") [u]) (EP X pins σ Q) X.xe s := fun p hp c ex hv => by
        obtain ⟨as, rd, nm⟩ := pyR_reads I d v u p hp r1 ru
        obtain ⟨b, rfl⟩ := hv
        cases ru
        unfold shownE at c
        simp only [Bool.and_eq_true, decide_eq_true_eq] at c
        obtain ⟨⟨c1, c3⟩, c4⟩ := c
        have hz : p.shown.length ≤ sizeLine := by
          have b1 := PyData.shown_le_bulk 400 (by decide) p c4.1
          have b2 : (400 + 2) * p.bulk + 400 ≤ (400 + 2) * 30000 + 400 := Nat.add_le_add_right (Nat.mul_le_mul_left _ c4.2) _
          exact Nat.le_trans b1 (Nat.le_trans b2 (by decide))
        refine repr_of_reads' rd c1 (fun _ => nm) hg (by omega) (fun _ _ e => e) (fun h' t tk hk => ?_) hz
        exact ⟨.str p.shown, H, I.kept hk, ⟨_, rfl⟩, by rw [ex]; exact g.ret hd (by rw [Is])⟩
      cases d with
      | tup ds =>
        have hx : ((pyR (.tup ds)).bind fun p => if shownE p then some p.shown else none) = some x := hx
        obtain ⟨p, hp, hx⟩ := Option.bind_eq_some_iff.mp hx
        split at hx
        · rename_i c
          cases hx
          obtain ⟨b, _, rfl, _⟩ := r1.seqT
          exact key p hp c rfl ⟨b, rfl⟩
        · cases hx
      | lsx ds =>
        have hx : ((pyR (.lsx ds)).bind fun p => if shownE p then some p.shown else none) = some x := hx
        obtain ⟨p, hp, hx⟩ := Option.bind_eq_some_iff.mp hx
        split at hx
        · rename_i c
          cases hx
          have r2 := r1
          rw [Is] at r2
          obtain ⟨b, _, rfl, _⟩ := r2
          exact key p hp c rfl ⟨b, rfl⟩
        · cases hx
      | edc =>
        have hx : some (PyData.dict []).shown = some x := hx
        cases hx
        have r2 := r1
        rw [Is] at r2
        obtain ⟨b, rfl, _⟩ := r2
        exact key _ rfl (by decide +kernel) rfl ⟨b, rfl⟩
      | _ => cases hx
  | [], _, g0 => exact g0.elim
  | _ :: _ :: _, _, g0 => exact g0.elim
end
end Md

set_option Elab.async false
set_option linter.all false
set_option maxRecDepth 100000
set_option maxHeartbeats 2000000
/-! Md20: a tuple turned round; functions as values; dict comprehensions. -/
namespace Md
section
open PySem PySem.W PySem.Calls PyProof.Rows HT
variable {prog : Program} {w : World} {A : Around} {E : Value → Shared → Prop} {s : Shared}
theorem range_get {α : Type} : ∀ l : List α, (List.range l.length).filterMap (fun k => l[k]?) = l
  | [] => rfl
  | x :: l => by
    rw [List.length_cons, List.range_succ_eq_map, List.filterMap_cons, List.filterMap_map]
    have := range_get l
    simp only [List.getElem?_cons_zero, Function.comp_def, List.getElem?_cons_succ]
    rw [this]
theorem fm_congr {α β : Type} {f g : α → Option β} : ∀ {l : List α}, (∀ x ∈ l, f x = g x) → l.filterMap f = l.filterMap g
  | [], _ => rfl
  | x :: l, h => by
    rw [List.filterMap_cons, List.filterMap_cons, h x (by simp), fm_congr fun y hy => h y (by simp [hy])]
theorem rev_pick (xs : Array Value) : ((List.range xs.size).filterMap fun (k : Nat) => xs[(((xs.size : Int) - 1) + (k : Int) * (-1)).toNat]?).toArray = xs.toList.reverse.toArray := by
  congr 1
  have h := range_get xs.toList.reverse
  rw [List.length_reverse, Array.length_toList] at h
  refine Eq.trans (fm_congr fun k hk => ?_) h
  have hk := List.mem_range.mp hk
  rw [List.getElem?_reverse (by rw [Array.length_toList]; exact hk), Array.getElem?_toList, Array.length_toList]
  congr 1
  omega
theorem sliceRev {sl : Addr} {n : Nat} {vs : Value} {Q : Int × Int × Nat → Shared → Prop} (hs : s.heap.IsSliceOf sl .none .none vs) (ps : IsPart vs (some (-1)))
    (q : Q ((n : Int) - 1, -1, n) s) : wpAny (model prog w) A (Builtin.Slice.sliceApplied (.ref sl) (pure (n : Int))) Q E s := by
  obtain ⟨ob, ho, _, hd⟩ := id hs
  unfold Builtin.Slice.sliceApplied Builtin.Slice.sliceFields
  refine wpAny_bind (wpAny_bind (wpAny_field ho hd (x := .none) rfl (wpAny_bind (wpAny_field ho hd (x := .none) rfl (wpAny_bind (wpAny_field ho hd (x := vs) rfl (wpAny_pure ?_)))))))
  refine wpAny_bind (slicePart_ ps ?_)
  show wpAny _ _ (if ((-1 : Int) == 0) = true then _ else _) _ _ s
  rw [if_neg (by decide)]
  refine wpAny_bind (slicePart_none (wpAny_bind (slicePart_none (wpAny_bind (wpAny_pure ?_)))))
  have e1 : Builtin.Slice.sliceAdjust none none (-1) (n : Int) = ((n : Int) - 1, -1) := rfl
  have e2 : Builtin.Slice.slicePlaces ((n : Int) - 1) (-1) (-1) = n := by
    unfold Builtin.Slice.slicePlaces
    rw [if_neg (by decide)]
    by_cases h : n = 0
    · subst h; rfl
    · rw [if_pos (by omega)]
      simp only [Int.neg_neg, Int.ediv_one]
      omega
  show wpAny _ _ (match Builtin.Slice.sliceAdjust none none (-1) (n : Int) with | (lo, hi) => pure (lo, (-1 : Int), Builtin.Slice.slicePlaces lo hi (-1))) _ _ s
  rw [e1]
  show wpAny _ _ (pure ((n : Int) - 1, (-1 : Int), Builtin.Slice.slicePlaces ((n : Int) - 1) (-1) (-1))) _ _ s
  rw [e2]
  exact wpAny_pure q
theorem getRev {t sl : Addr} {items : Array Value} {vs : Value} {Q : Value → Shared → Prop} (ht : IsTup s.heap t items) (hs : s.heap.IsSliceOf sl .none .none vs) (ps : IsPart vs (some (-1)))
    (q : Q (.ref s.heap.objs.size) { s with heap := s.heap.push { cls := .type "tuple", data := .seq items.toList.reverse.toArray } }) (hsz : items.size ≤ sizeLine) : wpAny (model prog w) A (getItem (.ref t) (.ref sl)) Q E s := by
  have few : sizeOk (.seq items.toList.reverse.toArray) := by
    show items.toList.reverse.toArray.size ≤ sizeLine
    rw [List.size_toArray, List.length_reverse, Array.length_toList]
    exact hsz
  obtain ⟨ob, ho, hc, hd⟩ := id hs
  have ty : s.TypeIs (.ref sl) "slice" := ⟨ob, ho, hc⟩
  unfold getItem
  try with_reducible refine wpAny_holding ?_
  first | refine wpAny_bind (wpAny_pure ?_) | skip
  refine wpAny_bind (wpAny_sequenceKey ht.typeIs (by decide) (wpAny_bind (wpAny_callSpecial?_slot (name := Str.ofString "__getitem__") ht.typeIs PyProof.Rows.slot_tuple_getitem (wpAny_call_entry PyProof.Rows.slot_tuple_getitem ht.typeIs entry_tuple_getitem ?_ (args_tuple_getitem _ _)))))
  show wpAny _ _ (Builtin.Tuple.tupleItemsOf (.ref t) >>= _) _ _ s
  refine wpAny_bind (tupleItemsOf_ ht (wpAny_bind (wpAny_typeOf ty ?_)))
  rw [if_pos (by decide)]
  refine wpAny_bind (sliceRev (n := items.size) hs ps ?_)
  have no : ¬ ((((items.size : Int) - 1) == 0 && (-1 : Int) == 1 && items.size == items.size) = true) := by
    intro z
    rw [Bool.and_eq_true, Bool.and_eq_true] at z
    exact absurd z.1.2 (by decide)
  show wpAny _ _ (if (((items.size : Int) - 1) == 0 && (-1 : Int) == 1 && items.size == items.size) = true then _ else _) _ _ s
  rw [if_neg no, rev_pick]
  first
    | exact wpAny_bind (m := Builtin.Tuple.tupleExact _) (wpAny_newObj_type (wpAny_pure ⟨_, rfl, wpAny_pure q⟩) few)
    | exact wpAny_bind (m := Builtin.Tuple.tupleExact _) (wpAny_newObj_type (wpAny_bind (wpAny_pure (wpAny_pure ⟨_, rfl, wpAny_pure q⟩))) few)
    | exact wpAny_bind (wpAny_bind (m := Builtin.Tuple.tupleExact _) (wpAny_newObj_type (wpAny_pure (wpAny_pure ⟨_, rfl, wpAny_pure q⟩)) few))
    | exact wpAny_bind (wpAny_bind (m := Builtin.Tuple.tupleExact _) (wpAny_newObj_type (wpAny_pure ⟨_, rfl, wpAny_pure q⟩) few))
end
open PySem PySem.Spec PyProof.Rows L2
section
variable {X : Cx} {W : WX} {a e : Expr} {ma : ED} {ml : AD} {es : List Expr} {pos p p2 q : Pos}
def tRevT (K : PySem.W.Frag) (te : TE) : TE := fun σ H Q => te σ H fun x H1 => ∃ a xs, x = .ref a ∧ SqT K H1 a xs ∧ NewX K xs.reverse H1 Q
theorem pe_revT {e : Expr} {te : TE} {k : Nat} {p1 p2 p3 pos : Pos} (he : PE X e te) : PE X (.Subscript e (.Slice none none (some (.UnaryOp .USub (.Constant (.int 1) k p1) p2)) p3) pos) (tRevT X.K te) := by
  refine ⟨fun pins s σ H Q I h => Subscript_ (thn (he.run pins s σ H _ I h) fun v s1 ⟨x, H1, I1, r1, a, xs, ex, hx, q⟩ => ?_)⟩
  subst ex
  cases r1
  have hst : PO X (some (.UnaryOp .USub (.Constant (.int 1) k p1) p2)) (tPart (tUn (rU fun i => .int (-i)) (tC (.int 1)))) := po_some (pe_un un_neg pe_int)
  refine wpAny_Slice (thn (po_none.run pins s1 σ H1 (fun o H2 => o = none ∧ H2 = H1) I1 ⟨rfl, rfl⟩) fun vl s2 ⟨l, H2, I2, pl, el, e2⟩ => ?_)
  subst el e2
  refine thn (po_none.run pins s2 σ H2 (fun o H3 => o = none ∧ H3 = H2) I2 ⟨rfl, rfl⟩) fun vu s3 ⟨u, H3, I3, pu, eu, e3⟩ => ?_
  subst eu e3
  refine thn (hst.run pins s3 σ H3 (fun o H4 => o = some (-1) ∧ H4 = H3) I3 ⟨1, rfl, -1, rfl, rfl, rfl⟩) fun vs s4 ⟨o, H4, I4, ps, eo, e4⟩ => ?_
  subst eo e4
  have I5 : Inv X pins σ H4 { s4 with heap := s4.heap.push { cls := .type "slice", data := .fields #[vl, vu, vs] } } := I4.kept (t' := s4.toks) fun b ob q => Heap.get?_push_of_some _ q
  obtain ⟨its, r, ht, hz⟩ := I5.tuple hx
  have hlen := r.length
  cases pl
  cases pu
  show wpAny (model X.prog X.w) X.A (subscriptTail e (.Slice none none (some (.UnaryOp .USub (.Constant (.int 1) k p1) p2)) p3) (.ref a) (.ref s4.heap.objs.size)) (EP X pins σ Q) X.xe { s4 with heap := s4.heap.push { cls := .type "slice", data := .fields #[.none, .none, vs] } }
  refine tail_any (ops := [.ref a, .ref s4.heap.objs.size]) ht.typeIs PyProof.Rows.slot_tuple_getitem.lookup ?_ (by with_unfolding_all rfl)
  refine getRev (items := its.toArray) ht (Heap.IsSliceOf.new _ .none .none vs) ps ?_ (by rw [List.size_toArray]; omega)
  exact ep_new (tk := s4.toks) I5 (fun _ _ e => e) r.reverse (by rw [List.length_reverse]; exact hz) q
def mRevT (ma : ED) : ED := fun loc S => (ma loc S).bind fun d S1 => need (tupOf d) fun ds => .ok (.tup ds.reverse) S1
theorem pm_revT {k : Nat} {p1 p2 p3 : Pos} (ha : PE X a (tE X.K W ma)) : PE X (.Subscript a (.Slice none none (some (.UnaryOp .USub (.Constant (.int 1) k p1) p2)) p3) pos) (tE X.K W (mRevT ma)) :=
  (pe_revT ha).md fun σ H Q ⟨ρ, loc, S, rl, hd, g⟩ => ⟨ρ, loc, S, rl, hd, Good.bind g fun d S1 ρ1 H1 x hd1 e1 r1 g1 => by
    obtain ⟨ds, h1, g2⟩ := g1.need
    obtain rfl := tupOf_eq h1
    obtain ⟨b, vs, rfl, h3, h4⟩ := r1.seqT
    refine ⟨b, vs, rfl, h3, fun p ob np nd => ?_⟩
    obtain ⟨h5, e5, r5⟩ := hd1.newX np nd h4.reverse
    exact g2 ρ1 _ _ h5 e5 r5⟩
end
end Md

set_option Elab.async false
set_option linter.all false
set_option maxRecDepth 100000
set_option maxHeartbeats 2000000
/-! Md21: functions as values. -/
namespace Md
open PySem PySem.Spec PyProof.Rows L2
section
variable {X : Cx} {W : WX} {e : Expr} {ml : AD} {es : List Expr} {pos p : Pos} {x y : Str} {k j i : Nat} {ps : List Str} {m : List D → Sto → Out D}
/-- a def's name stands for it -/
def FnNs (K : PySem.W.Frag) (mg : Str → Option Value) (x : Str) : Prop := ∃ f : Addr, mg x = some (.ref f) ∧ PySem.W.nsIn K mainGlobals x = some (some (.ref f))
theorem pm_fn (hg : Gl X x) (h : FnNs X.K X.mg x) (hdb : (x == ("__debug__" : Str)) = false := by decide) : PE X (.Name x p) (tE X.K W (mC (.fn x))) := by
  obtain ⟨f, h1, h2⟩ := h
  exact pm_c (pe_glob (v := .ref f) hg h1 rfl hdb) fun ρ H => by rw [Is]; exact ⟨f, rfl, h2⟩
def mFnV (x : Str) (m : List D → Sto → Out D) (i : Nat) (ml : AD) : ED := fun loc S => (mVar i loc S).bind fun d S1 => guardO (decide (d = .fn x)) (mFn m ml loc S1)
theorem pm_callV (F : DefAt X.prog X.w X.K X.mg X.base x k ps m) (hns : FnNs X.K X.mg x) (hr : Ard j X.A) (hk : k ≤ j) (tk : Takes X W) (hv : PE X (.Name y p) (tVar i)) (ha : PA X (e :: es) (tA X.K W ml))
    (he : starEach (e :: es) X.env = (false, eval e X.env) :: starEach es X.env := by rfl) (hpl : (backTo pos (starEach es X.env)).any (·.1) = false := by rfl) :
    PE X (.Call (.Name y p) (e :: es) [] pos) (tE X.K W (mFnV x m i ml)) := by
  obtain ⟨f, fd, F1, h1, h2, h3, _⟩ := F.ex
  obtain ⟨f', h4, h5⟩ := hns
  rw [h1] at h4
  cases h4
  constructor
  intro pins s σ H Q I ⟨ρ, loc, S, rl, hd, g⟩
  unfold mFnV mVar at g
  split at g
  · rename_i d hq
    simp only [Out.bind_ok] at g
    obtain ⟨c, g2⟩ := g.guard
    have c := of_decide_eq_true c
    subst c
    obtain ⟨v, hσ, hv2⟩ := rl.at_ i _ hq
    rw [Is] at hv2
    obtain ⟨a, rfl, h6⟩ := hv2
    rw [h5] at h6
    cases h6
    have h : tE X.K W (mFn m ml) σ H Q := ⟨ρ, loc, S, rl, hd, g2⟩
    rw [← F.len] at h
    have hA := fn_md (sp := fun _ _ _ _ => True) h
    refine wpAny_Call_Name_kw (thn (hv.run pins s σ H (fun v H1 => v = .ref f ∧ H1 = H) I ⟨_, hσ, rfl, rfl⟩) fun u s1 ⟨v, H1, I1, r1, e1, e2⟩ => ?_)
    subst e1 e2
    cases r1
    exact PySem.W.callWith_K (h₀ := X.base) I1.ok.mod.kin h2 (thn (ha.run pos pins s1 σ _ _ I1 hA) fun us s2 ⟨vs, H2, I2, r2, q⟩ => ⟨I2.kIn, runG (F1.mono hk) hr h3 tk I2 r2 q⟩) he hpl
  · exact g.elim
end
end Md

set_option Elab.async false
set_option linter.all false
set_option maxRecDepth 100000
set_option maxHeartbeats 2000000
/-! Md22: dict comprehensions. -/
namespace Md
open PySem L2
section
variable {X : Cx} {W : WX} {mi : WD} {g : TG} {mg : TD} {mt : BD} {mk mv : ED} {is vs : List Nat}
def dctL (S : Sto) (l : Nat) : Option (List (D × D)) := match S[l]? with
  | some (.dct kvs) => some kvs
  | _ => none
def dcGo (L : Nat) (ok : Sto → Bool) (mg : TD) (mt : BD) (mk mv : ED) (lw : Md.Loc) : List D → Sto → Out Unit
  | [], S => guardO (ok S) (.ok () S)
  | d :: r, S => guardO (ok S) (need (mg d lw) fun l => (noex (mt l S)).bind fun b S1 =>
      if b then (noex (mk l S1)).bind fun k S2 => (noex (mv l S2)).bind fun v S3 => need (dctL S3 L) fun kvs => guardO ((keyD k).isSome && small kvs.length) (dcGo L ok mg mt mk mv lw r (S3.set L (.dct (putD kvs k v)))) else dcGo L ok mg mt mk mv lw r S1)
def mDc (mi : WD) (mg : TD) (mt : BD) (mk mv : ED) (vs : List Nat) : ED := fun loc S => (mi loc S).bind fun src S1 => (dcGo S1.length (cellOk src) mg mt mk mv (wipeL loc vs) src.ds (S1 ++ [.dct []])).bind fun _ S2 => .ok (.ref S1.length) S2
theorem dc_md {K : PySem.W.Frag} (hm : TgM K g mg is) (his : ∀ i ∈ is, i ∈ vs) {σ : St} {H : Hp} {Q : VK} (h : tE K W (mDc mi mg mt mk mv vs) σ H Q) :
    tDc (tI K W mi) g (tT K WF mt) (tE K WF mk) (tE K WF mv) vs σ H Q := by
  obtain ⟨ρ, loc, S, rl, hd, gg⟩ := h
  refine ⟨ρ, loc, S, rl, hd, Good.bind gg fun src S1 ρ1 H1 J hd1 e1 wk g1 Dd nD => ?_⟩
  obtain ⟨h4, e4, r4⟩ := hd1.push (o := .dK []) (c := .dct []) nD ⟨[], upd_same, rfl⟩
  let P : Nat → Hp → Prop := fun i H => i ≤ src.ds.length ∧ ∃ ρ2 S2, Held K ρ2 H S2 ∧ Ext (ρ1 ++ [Dd]) (upd H1 Dd (.dK [])) ρ2 H ∧
    Good K W σ (Is K) Q ρ1 H1 ((dcGo S1.length (cellOk src) mg mt mk mv (wipeL loc vs) (src.ds.drop i) S2).bind fun _ S => .ok (.ref S1.length) S)
  refine ⟨fun i m H => m = src.ds.length - i ∧ P i H, ⟨_, rfl, Nat.zero_le _, ρ1 ++ [Dd], S1 ++ [Cell.dct []], h4, Ext.refl, (by rw [List.drop_zero]; exact g1)⟩, ?_⟩
  rintro i m H ⟨rfl, hi, ρ2, S2, hd2, e2, g2⟩
  have e02 := e4.trans e2
  by_cases hlt : i < src.ds.length
  · rw [List.drop_eq_getElem_cons hlt] at g2
    rw [dcGo, guardO_bind] at g2
    obtain ⟨c, g3⟩ := g2.guard
    rw [need_bind] at g3
    obtain ⟨w1, _⟩ := wk ρ2 H S2 H hd2 e02 c (fun _ _ q => q)
    obtain ⟨w2, w3⟩ := w1 i _ (List.getElem?_eq_getElem hlt)
    refine .inr ⟨w2, P (i + 1), fun H' p' => ⟨src.ds.length - (i + 1), by omega, rfl, p'⟩, fun x H3 y => ?_⟩
    have step : Held K ρ2 H3 S2 ∧ Ext ρ2 H ρ2 H3 ∧ Is K ρ2 H3 src.ds[i] x := by
      rcases w3 x H3 y with ⟨rfl, r⟩ | ⟨T, us, ds', rfl, n, rfl, e, r⟩
      · exact ⟨hd2, Ext.refl, r⟩
      · obtain ⟨h3, e3, r3⟩ := hd2.newW n r
        rw [e]
        exact ⟨h3, e3, r3⟩
    obtain ⟨hd3, e3, r3⟩ := step
    obtain ⟨l, hl, g4⟩ := g3.need
    rw [Out.bind_bind] at g4
    have rw0 : RelL K ρ2 (wipe σ vs) H3 (wipeL loc vs) := (((rl.ext e1).ext e02).ext e3).wipe vs
    refine hm.run ρ2 (wipe σ vs) H3 H3 _ _ x l _ (fun _ _ q => q) rw0 r3 hl fun σ2 rl2 hw => ⟨(hw vs his).trans ?_, ?_⟩
    · apply List.ext_getElem?
      intro j
      rw [wipe_at, wipe_at]
      by_cases hj : j ∈ vs
      · rw [if_pos hj, if_pos hj]
        cases σ[j]? <;> rfl
      · rw [if_neg hj]
    refine ⟨ρ2, l, S2, rl2, hd3, Good.bindN g4 fun b S3 ρ3 H4 b' hd4 e5 rb g6 => ?_⟩
    have rb : b = b' := rb
    subst rb
    cases b with
    | false =>
      rw [if_neg Bool.false_ne_true] at g6 ⊢
      exact ⟨hlt, ρ3, S3, hd4, (e2.trans e3).trans e5, g6⟩
    | true =>
      rw [if_pos rfl] at g6 ⊢
      rw [Out.bind_bind] at g6
      refine ⟨ρ3, l, S3, rl2.ext e5, hd4, Good.bindN g6 fun k S4 ρ4 H5 y5 hd5 e6 ry g7 => ?_⟩
      rw [Out.bind_bind] at g7
      refine ⟨ρ4, l, S4, (rl2.ext e5).ext e6, hd5, Good.bindN g7 fun v S5 ρ5 H6 z6 hd6 e7 rz g8 => ?_⟩
      rw [need_bind] at g8
      obtain ⟨kvs, hk, g9⟩ := g8.need
      rw [guardO_bind] at g9
      obtain ⟨c2, g10⟩ := g9.guard
      rw [Bool.and_eq_true] at c2
      obtain ⟨q, hq⟩ := Option.isSome_iff_exists.mp c2.1
      have hS : S5[S1.length]? = some (.dct kvs) := by
        unfold dctL at hk
        split at hk
        · rename_i kvs' e; cases hk; exact e
        · cases hk
      have eA := ((e2.trans e3).trans e5).trans (e6.trans e7)
      have hD : ρ5[S1.length]? = some Dd := eA.get (by
        have := hd1.len
        rw [List.getElem?_append_right (by omega)]
        simp [this])
      obtain ⟨ks, h1, h2⟩ := hd6.cell _ _ _ hS hD
      obtain rfl := keyD_V hq (ry.ext e7)
      obtain ⟨h7, e8⟩ := hd6.write (o := .dK (putK ks q z6)) (c := .dct (putD kvs k v)) hD ⟨_, upd_same, (IsKV.put hq rz h2).ext (Held.ext_write (List.mem_of_getElem? hD))⟩
      refine ⟨ks, q, rfl, h1, by rw [h2.length]; exact small_lt c2.2, hlt, ρ5, _, h7, eA.trans e8, g10⟩
  · have hi' : i = src.ds.length := by omega
    subst hi'
    rw [List.drop_length] at g2
    rw [dcGo, guardO_bind] at g2
    have gb := g2.guard
    obtain ⟨_, w1⟩ := wk ρ2 H S2 H hd2 e02 gb.1 (fun _ _ q => q)
    exact .inl ⟨w1, gb.2 ρ2 H _ hd2 e02 (r4.ext e2)⟩
theorem pts_p0 : PTs X [] (tT X.K WF mYes) := ⟨fun pins s σ H Q I ⟨ρ, loc, S, rl, hh, g⟩ => pts_nil.run pins s σ H Q I (Good.ret g hh rfl)⟩
theorem pts_p1 {c : Expr} {mt : BD} (h : PT X c (tT X.K WF mt)) : PTs X [c] (tT X.K WF mt) := pts_one h
variable {kx vx tg iter : Expr} {ifs : List Expr} {scope : Scope} {own : List (Str × Nat)} {pos : Pos}
theorem pm_dc (hc : X.calm = true) (hN : X.N.Nodup) (hi : PI X tg iter (tI X.K W mi)) (ok : BlkOk X.N X.env.scope scope own) (hm : TgM X.K g mg is) (his : ∀ i ∈ is, i ∈ own.map (·.2))
    (hg : ∀ (s : Shared) (H : Hp) (C : Addr) (cl : List (Str × Addr)) (fp : List Addr), PG (X.blk s H scope (compEnvC scope cl C X.env) fp) tg g)
    (ht : ∀ (s : Shared) (H : Hp) (C : Addr) (cl : List (Str × Addr)) (fp : List Addr), PTs (X.blk s H scope (compEnvC scope cl C X.env) fp) ifs (tT X.K WF mt))
    (hk : ∀ (s : Shared) (H : Hp) (C : Addr) (cl : List (Str × Addr)) (fp : List Addr), PE (X.blk s H scope (compEnvC scope cl C X.env) fp) kx (tE X.K WF mk))
    (he : ∀ (s : Shared) (H : Hp) (C : Addr) (cl : List (Str × Addr)) (fp : List Addr), PE (X.blk s H scope (compEnvC scope cl C X.env) fp) vx (tE X.K WF mv)) (hs : ∀ x, foldedSetIterable iter X.env x = pure x := by intro _; rfl) :
    PE X (.DictComp kx vx [⟨tg, iter, ifs, 0⟩] scope pos) (tE X.K W (mDc mi mg mt mk mv (own.map (·.2)))) :=
  (pe_dc hc hN hi ok hg ht hk he hs).md fun σ H Q h => dc_md hm his h
/-- t.index(k), t a tuple of ints -/
def fIndexT : D → List D → Sto → Out D
  | d, [.int k], S => need (tupOf d) fun ds => need (intsD ds) fun ns => guardO (decide (k ∈ ns)) (.ok (.int (ns.idxOf k : Nat)) S)
  | _, _, _ => .no
theorem mm_indexT : MtR X "tuple.index" (rMM X.K fIndexT) := fun pins s σ H x xs v us Q I rx rxs ⟨W, σ', ρ, S, d, ds, hd, r1, r2, g0⟩ => by
  unfold fIndexT at g0
  split at g0
  · rename_i k
    obtain ⟨es, h1, g1⟩ := g0.need
    obtain ⟨ns, h2, g2⟩ := g1.need
    obtain ⟨c, g3⟩ := g2.guard
    have c := of_decide_eq_true c
    obtain rfl := tupOf_eq h1
    obtain rfl := intsD_eq h2
    obtain ⟨b, vs, rfl, h3, h4⟩ := r1.seqT
    obtain rfl := isL_ints h4
    obtain ⟨y, rfl, hy⟩ := r2.one
    rw [Is] at hy
    subst hy
    cases rx
    obtain ⟨u, rfl, t, rfl⟩ := vals1 rxs
    obtain ⟨its, rv, ⟨o, ho, hc, n, hdd⟩, _⟩ := I.tuple h3
    exact PySem.SeqAt.tuple_index_ints (vs := its) ⟨o, ho, hc, n, hdd⟩ (RZ.intsAre_vals rv) c ⟨.int (ns.idxOf k : Nat), H, I.tok _, ⟨_, rfl⟩, g3.ret hd (by rw [Is])⟩
  · exact g0.elim
end
end Md

set_option Elab.async false
set_option linter.all false
set_option maxRecDepth 100000
set_option maxHeartbeats 2000000
/-! Md23: defs that call themselves; statements that are not reached. -/
namespace Md
open PySem L2
section
variable {P : Program} {w : World} {K : PySem.W.Frag} {mg : Str → Option Value} {base : Heap} {x : Str} {k : Nat} {st : Stmt} {ps : List Str}
/-- nothing is promised -/
def mNone : List D → Sto → Out D := fun _ _ => .no
theorem defAt0 (F : FunAt K mg x st ps) : DefAt P w K mg base x k ps mNone := by
  obtain ⟨f, fd, F, h1, h2⟩ := F.ex
  refine ⟨⟨f, fd, ⟨fun A outer s H args us vs Q E _ _ _ _ _ ⟨_, _, _, _, _, _, g⟩ => g.elim⟩, h1, F.kp, h2, F.lk⟩, ?_⟩
  funext ds S
  unfold mNone
  split <;> rfl
/-- a statement that is not reached -/
def sNo : SD := fun _ _ => .no
theorem pms_no {X : Cx} {W : WX} {st : Stmt} : PS X st (tS X.K W sNo) := ⟨fun pins s σ H En I ⟨_, _, _, _, _, g⟩ => g.elim⟩
end
end Md

set_option Elab.async false
set_option linter.all false
set_option maxRecDepth 100000
/-! Md24: repr of plain things with empty dicts among them. -/
namespace Md
open PySem L2
mutual
def enD : D → Bool
  | .non => true
  | .bl _ => true
  | .int _ => true
  | .str x => PyData.strOk x
  | .tup ds => enL ds
  | .lsx ds => enL ds
  | .edc => true
  | _ => false
def enL : List D → Bool
  | [] => true
  | d :: ds => enD d && enL ds
end
mutual
theorem pyR_is : ∀ {d : D}, enD d = true → ltD d = true → ∃ p, pyR d = some p ∧ p.showable = true ∧ p.leavesShort 400 = true ∧ p.depth ≤ dep d + 1 ∧ p.bulk = blk d
  | .non, _, _ => ⟨_, rfl, rfl, rfl, Nat.zero_le _, rfl⟩
  | .bl _, _, _ => ⟨_, rfl, rfl, rfl, Nat.zero_le _, rfl⟩
  | .int i, _, h => ⟨_, rfl, (py_short (d := .int i) rfl h).1, (py_short (d := .int i) rfl h).2, Nat.zero_le _, rfl⟩
  | .str x, h, k => ⟨_, rfl, (py_short (d := .str x) h k).1, (py_short (d := .str x) h k).2, Nat.zero_le _, rfl⟩
  | .tup ds, h, k => by
    rw [enD] at h
    rw [ltD] at k
    obtain ⟨ps, e, a, b, c, f⟩ := pyRL_is h k
    refine ⟨.tuple ps, by rw [pyR, e]; rfl, a, b, ?_, f⟩
    show PyData.depthAll ps + 1 ≤ _
    rw [dep]; omega
  | .edc, _, _ => ⟨_, rfl, rfl, rfl, show (0 : Nat) + 1 ≤ 0 + 1 from Nat.le_refl 1, rfl⟩
  | .lst _, h, _ => by cases h
  | .adr _, h, _ => by cases h
  | .ref _, h, _ => by cases h
  | .scr _, h, _ => by cases h
  | .fn _, h, _ => by cases h
  | .wtu _, h, _ => by cases h
  | .lsx ds, h, k => by
    rw [enD] at h
    have k : ltL ds = true := k
    obtain ⟨ps, e, a, b, c, f⟩ := pyRL_is h k
    refine ⟨.list ps, by rw [pyR, e]; rfl, a, b, ?_, f⟩
    show PyData.depthAll ps + 1 ≤ depL ds + 1 + 1
    omega
theorem pyRL_is : ∀ {ds : List D}, enL ds = true → ltL ds = true → ∃ ps, pyRL ds = some ps ∧ PyData.showableAll ps = true ∧ PyData.leavesShortAll 400 ps = true ∧ PyData.depthAll ps ≤ depL ds + 1 ∧ PyData.bulkAll ps = blkL ds
  | [], _, _ => ⟨[], rfl, rfl, rfl, Nat.zero_le _, rfl⟩
  | d :: ds, h, k => by
    rw [enL, Bool.and_eq_true] at h
    rw [ltL, Bool.and_eq_true] at k
    obtain ⟨p, e, a, b, c, f⟩ := pyR_is h.1 k.1
    obtain ⟨ps, e', a', b', c', f'⟩ := pyRL_is h.2 k.2
    refine ⟨p :: ps, by rw [pyRL, e, e']; rfl, by rw [PyData.showableAll, a, a']; rfl, by rw [PyData.leavesShortAll, b, b']; rfl, ?_, by rw [PyData.bulkAll, f, f', blkL]⟩
    rw [PyData.depthAll, depL]; omega
end
theorem repr2_ok {d : D} (h : okD d = true) (h0 : ltD d = true) (h1 : dep d ≤ 39) (h2 : blk d ≤ 30000) : ∃ x, ∀ S, reprD2 S d = some x :=
  ⟨_, fun S => by unfold reprD2; rw [reprD_is h h0 (by omega) h2]⟩
theorem repr2_en {d : D} (h : enD d = true) (h0 : ltD d = true) (h1 : dep d ≤ 39) (h2 : blk d ≤ 30000) : ∃ x, ∀ S, reprD2 S d = some x := by
  have key : ∀ {d : D}, enD d = true → ltD d = true → dep d ≤ 39 → blk d ≤ 30000 → ∃ p, pyR d = some p ∧ shownE p = true := fun h h0 h1 h2 => by
    obtain ⟨p, e, a, b, c, f⟩ := pyR_is h h0
    refine ⟨p, e, ?_⟩
    unfold shownE
    rw [a, b, decide_eq_true (show p.depth ≤ 40 by omega), decide_eq_true (show p.bulk ≤ 30000 by omega)]; rfl
  cases d with
  | tup ds =>
    obtain ⟨p, e, c⟩ := key h h0 h1 h2
    cases q : reprD [] (.tup ds) with
    | some x =>
      refine ⟨x, fun S => ?_⟩
      unfold reprD2
      rw [show reprD S (.tup ds) = reprD [] (.tup ds) from rfl, q]
    | none =>
      refine ⟨p.shown, fun S => ?_⟩
      unfold reprD2
      rw [show reprD S (.tup ds) = reprD [] (.tup ds) from rfl, q]
      show (pyR (.tup ds)).bind _ = _
      rw [e]
      show (if shownE p = true then _ else none) = _
      rw [if_pos c]
  | lsx ds =>
    obtain ⟨p, e, c⟩ := key h h0 h1 h2
    cases q : reprD [] (.lsx ds) with
    | some x =>
      refine ⟨x, fun S => ?_⟩
      unfold reprD2
      rw [show reprD S (.lsx ds) = reprD [] (.lsx ds) from rfl, q]
    | none =>
      refine ⟨p.shown, fun S => ?_⟩
      unfold reprD2
      rw [show reprD S (.lsx ds) = reprD [] (.lsx ds) from rfl, q]
      show (pyR (.lsx ds)).bind _ = _
      rw [e]
      show (if shownE p = true then _ else none) = _
      rw [if_pos c]
  | edc => exact ⟨_, fun S => rfl⟩
  | non => exact repr2_ok rfl rfl (Nat.zero_le _) (Nat.zero_le _)
  | bl => exact repr2_ok rfl rfl (Nat.zero_le _) (Nat.zero_le _)
  | int => exact repr2_ok rfl h0 (Nat.zero_le _) (Nat.zero_le _)
  | str => exact repr2_ok h h0 (Nat.zero_le _) h2
  | _ => cases h
theorem enL_map {α : Type} {f : α → D} : ∀ {xs : List α}, (∀ x ∈ xs, enD (f x) = true) → enL (xs.map f) = true
  | [], _ => rfl
  | x :: xs, h => by rw [List.map_cons, enL, h x (by simp), enL_map fun y hy => h y (by simp [hy])]; rfl
theorem enL_app : ∀ {a b : List D}, enL a = true → enL b = true → enL (a ++ b) = true
  | [], _, _, h => h
  | x :: a, b, h, k => by
    rw [enL, Bool.and_eq_true] at h
    rw [List.cons_append, enL, h.1, enL_app h.2 k]; rfl
theorem okL_app : ∀ {a b : List D}, okL a = true → okL b = true → okL (a ++ b) = true
  | [], _, _, h => h
  | x :: a, b, h, k => by
    rw [okL, Bool.and_eq_true] at h
    rw [List.cons_append, okL, h.1, okL_app h.2 k]; rfl
theorem ltL_app : ∀ {a b : List D}, ltL a = true → ltL b = true → ltL (a ++ b) = true
  | [], _, _, h => h
  | x :: a, b, h, k => by
    rw [ltL, Bool.and_eq_true] at h
    rw [List.cons_append, ltL, h.1, ltL_app h.2 k]; rfl
theorem depL_app : ∀ {a b : List D}, depL (a ++ b) = max (depL a) (depL b)
  | [], _ => by rw [List.nil_append, depL]; omega
  | x :: a, b => by rw [List.cons_append, depL, depL_app, depL]; omega
theorem blkL_app : ∀ {a b : List D}, blkL (a ++ b) = blkL a + blkL b
  | [], _ => by rw [List.nil_append, blkL]; omega
  | x :: a, b => by rw [List.cons_append, blkL, blkL_app, blkL]; omega
end Md

set_option Elab.async false
set_option linter.all false
set_option maxRecDepth 100000
set_option maxHeartbeats 2000000
/-! Md25: errors of the module: raise, try .. except X as n. -/
namespace Md
open PySem PySem.Spec PyProof.Rows L2
/-- a class of errors of the module, without own __init__ -/
structure ExK (K : PySem.W.Frag) (mg : Str → Option Value) (x : Str) (C : Addr) : Prop where
  g : mg x = some (.ref C)
  n : PySem.W.nsIn K mainGlobals x = some (some (.ref C))
  k : PySem.W.keepIn K (.ref C) = true
  q : PySem.W.excIn K C [.type "ValueError", .type "Exception", .type "BaseException", .type "object"] "ValueError.__new__" = true
  b : PySem.W.subIn K (.ref C) (.type "BaseException") = some true
  t : PySem.W.typeIn K (.ref C) = some (.type "type")
  e : ExcC K C
section
variable {X : Cx} {W : WX} {x n y : Str} {C C0 D0 : Addr} {p pos pos' np p1 p2 : Pos}
theorem pmk_own0 (T : ExK X.K X.mg x C) (hg : Gl X x) (hdb : (x == ("__debug__" : Str)) = false := by decide) : PMk X (.Call (.Name x p) [] [] pos) (fun _ H Q => Q (.ref C) none H) := by
  intro pins s σ H Q I h
  refine wpAny_Call_Name_kw (ld_glob I hg T.g ?_ hdb)
  refine PySem.W.callWith_K0 I.kIn T.k ?_
  show wpAny _ _ (call (.ref C) []) _ _ _
  obtain ⟨bm, N, nm, qn, bs, hdct, sn, sub, ab, col, dd, k0, k1, k2, k3, k5, mN, hC, hN, hni, T'⟩ := exc_obj I.kIn T.q
  refine wpAny_call_exc_subT PySem.F.excBase_ValueError T' hC hN hni (fun h' e hm => ?_) (Nat.zero_le _)
  exact mk_of I hm (raises_own T.b T.t) h (I.hok.gone hm.new)
def sRaise (x : Str) : SD := fun loc S => .ex ⟨x, []⟩ loc S
theorem pms_raise (T : ExK X.K X.mg x C) (tk : Takes X W) (hg : Gl X x) (hc : X.calm = true := by rfl) (hdb : (x == ("__debug__" : Str)) = false := by decide) :
    PS X (.Raise (some (.Call (.Name x p) [] [] pos)) none pos') (tS X.K W (sRaise x)) :=
  (ps_raise hc tk (pmk_own0 T hg hdb)).md fun En σ H ⟨ρ, loc, S, rl, hd, g⟩ => g ρ H σ _ _ hd Ext.refl rl ⟨⟨C, T.n, rfl⟩, .inl ⟨rfl, rfl⟩⟩
/-- try: .., except x as n: where the suite sets one name to something that the error's class tells -/
def sTry (nms : List Str) (i j : Nat) (hv : Str → D) (mb : SD) : SD := fun loc S => match mb loc S with
  | .ex x l S1 => if x.cls ∈ nms ∧ x.fs.isEmpty = true ∧ i < l.length then .nx ((l.set j (some (hv x.cls))).set i none) S1 else .no
  | o => o
theorem RelL.unset {K : PySem.W.Frag} {ρ : List Addr} {σ : L2.St} {H : Hp} {l : Md.Loc} {i j : Nat} {d e : D} (r : RelL K ρ σ H ((l.set i (some d)).set j (some e))) : RelL K ρ (σ.set i none) H ((l.set j (some e)).set i none) := by
  refine ⟨by have := r.len; simp at this ⊢; exact this, fun k u hk => ?_⟩
  by_cases hi : i = k
  · subst hi
    by_cases hl : i < l.length
    · rw [List.getElem?_set_self (by simpa using hl)] at hk; cases hk
    · rw [List.getElem?_eq_none (by simp; omega)] at hk; cases hk
  · rw [List.getElem?_set_ne hi] at hk ⊢
    refine r.at_ k u ?_
    by_cases hj : j = k
    · subst hj
      by_cases hl : j < l.length
      · rw [List.getElem?_set_self hl] at hk
        rw [List.getElem?_set_self (by simpa using hl)]; exact hk
      · rw [List.getElem?_eq_none (by simp; omega)] at hk; cases hk
    · rw [List.getElem?_set_ne hj] at hk ⊢
      rw [List.getElem?_set_ne hi]; exact hk
theorem pms_try {nms : List Str} {i j : Nat} {hv : Str → D} {mb : SD} {ms : Str → Addr → SD} {body suite : List Stmt} {b₀ : Stmt} (hs : X.stack = X.env :: X.outer) (hf : X.env.frame = some X.env.locals) (hN : X.N.Nodup) (hi : X.N[i]? = some n) (hln : X.env.kindOf n = some .local) (hc : Names X x (.ref C0)) (tk : Takes X W)
    (hb : ∀ (W : WX) (pn : List (Addr × Obj)) (xe : Value → Shared → Prop), Takes (X.tr pn xe) W → PassesOwn (model X.prog X.w) X.A X.env xe → PSs (X.tr pn xe) body (tS X.K W mb))
    (hm : ∀ nm ∈ nms, ∃ C, ExK X.K X.mg nm C ∧ PySem.W.exmOne X.K (.ref C) (.ref C0) = some true)
    (hsu : ∀ nm ∈ nms, ∀ (C a : Addr) (oe : Obj) (pn : List (Addr × Obj)), ExK X.K X.mg nm C → Zc (.ref C) none oe → (∃ vs, oe.data = .fields vs) → PSs (X.suite a ((a, oe) :: pn)) (b₀ :: suite) (tS X.K (fun _ _ _ _ => False) (ms nm a)))
    (hq : ∀ nm ∈ nms, ∀ (a : Addr) (l : Md.Loc) (S : Sto), i < l.length → ms nm a (l.set i (some (.adr a))) S = .nx ((l.set i (some (.adr a))).set j (some (hv nm))) S) :
    PS X (.Try body [.ExceptHandler (some (.Name x np)) (some n) (b₀ :: suite) pos'] [] [] pos) (tS X.K W (sTry nms i j hv mb)) := by
  have base := ps_try_as (X := X) (x := x) (n := n) (c := .ref C0) (i := i) (body := body) (suite := suite) (b₀ := b₀) (np := np) (pos := pos) (pos' := pos') (tb := fun W => tS X.K W mb)
    (ts := fun a cls d => fun D σ H => ∃ nm ∈ nms, ∃ (C : Addr) (ρ : List Addr) (l : Md.Loc) (S : Sto), cls = .ref C ∧ d = none ∧ ExK X.K X.mg nm C ∧ i < l.length ∧ RelL X.K ρ σ H (l.set i (some (.adr a))) ∧ Held X.K ρ H S ∧
      GoodS X.K (fun _ _ _ _ => False) D ρ H (.nx ((l.set i (some (.adr a))).set j (some (hv nm))) S)) (Wout := W) hs hf hN hi hln hc tk hb (fun a oe cls d pn hz hfl => by
      refine ⟨fun pins s σ H D I h => ?_⟩
      obtain ⟨nm, hnm, C, ρ, l, S, rfl, rfl, T, hl, rl, hd, g⟩ := h
      exact (hsu nm hnm C a oe pn T hz hfl).run pins s σ H D I ⟨ρ, _, S, rl, hd, by rw [hq nm hnm a l S hl]; exact g⟩)
  refine ⟨fun pins s σ H En I h => base.run pins s σ H En I ?_⟩
  obtain ⟨ρ, loc, S, rl, hd, g⟩ := h
  refine ⟨ρ, loc, S, rl, hd, ?_⟩
  unfold sTry at g
  cases hq' : mb loc S with
  | ex e l S1 =>
    rw [hq'] at g
    simp only at g
    split at g
    · rename_i c
      intro ρ' H' σ' cls dx hd' e' rl' ix
      obtain ⟨⟨C, hC, rfl⟩, hx⟩ := ix
      have hfs : e.fs = [] := List.isEmpty_iff.mp c.2.1
      obtain ⟨C', T, hex⟩ := hm _ c.1
      have eC : C' = C := by have := T.n; rw [hC] at this; cases this; rfl
      subst eC
      have hdx : dx = none := by
        rcases hx with ⟨_, h⟩ | ⟨ne, _⟩
        · exact h
        · exact absurd hfs ne
      refine ⟨true, hex, fun _ a na => ⟨e.cls, c.1, C', ρ', l, S1, rfl, hdx, T, c.2.2, rl'.set i (by rw [Is]), hd', ?_⟩, fun z => by cases z⟩
      · intro ρ2 H2 σ2 hd2 e2 r2
        exact g ρ2 H2 _ hd2 (e'.trans e2) r2.unset
    · exact g.elim
  | nx l S1 => rw [hq'] at g; exact g
  | bk l S1 => rw [hq'] at g; exact g
  | ct l S1 => rw [hq'] at g; exact g
  | rt d S1 => rw [hq'] at g; exact g
  | no => rw [hq'] at g; exact g
/-- isinstance(e, y), e the error that the suite holds -/
def mIsE (i : Nat) (a : Addr) (b : Bool) : ED := fun loc S => if loc[i]? = some (some (.adr a)) then .ok (.bl b) S else .no
theorem pm_isE {i : Nat} {a : Addr} {oe : Obj} {pn : List (Addr × Obj)} {b : Bool} (T : ExK X.K X.mg x C) (hz : Zc (.ref C) none oe) (hfl : ∃ vs, oe.data = .fields vs) (T2 : ExK X.K X.mg y D0) (hb : PySem.W.kitOne X.K (.ref C) (.ref D0) = some b)
    (hg : Gl (X.suite a ((a, oe) :: pn)) "isinstance") (hm : X.mg "isinstance" = none) (hv : PE (X.suite a ((a, oe) :: pn)) (.Name n p1) (tVar i)) (hg2 : Gl (X.suite a ((a, oe) :: pn)) y) (hdb : (y == ("__debug__" : Str)) = false := by decide)
    (n1 : starEach [.Name n p1, .Name y p2] X.env = (false, eval (.Name n p1) X.env) :: starEach [.Name y p2] X.env := by rfl) (n2 : starEach [.Name y p2] X.env = (false, eval (.Name y p2) X.env) :: starEach [] X.env := by rfl) (n3 : (backTo pos (starEach [.Name y p2] X.env)).any (·.1) = false := by rfl) :
    PE (X.suite a ((a, oe) :: pn)) (.Call (.Name "isinstance" p) [.Name n p1, .Name y p2] [] pos) (tE X.K W (mIsE i a b)) :=
  (pe_callB (X := X.suite a ((a, oe) :: pn)) (call_isE T.e hz hfl) hg hm boot_isinstance (pa_cons hv (pa_cons (pe_glob (v := .ref D0) hg2 T2.g rfl hdb) pa_nil n2) n1) (he := n1) (hpl := n3)).md fun σ H Q ⟨ρ, loc, S, rl, hd, g⟩ => by
    unfold mIsE at g
    split at g
    · rename_i hl
      obtain ⟨v, h1, h2⟩ := rl.at_ i _ hl
      rw [Is] at h2
      subst h2
      exact ⟨.ref a, h1, .ref D0, .ref D0, b, rfl, fun u hu => hu, hb, g.ret hd (by rw [Is])⟩
    · exact g.elim
end
theorem def_ex {n p : Nat} {ms : SD} {ds : List D} {S S' : Sto} {x : Str} {l : Md.Loc} (hp : ds.length = p) (h : ms (startL n ds) S = .ex ⟨x, []⟩ l S') (hS : S'.take S.length = S) : mDef n p ms ds S = .ex ⟨x, []⟩ S := by
  unfold mDef
  rw [if_pos hp, h]
  show guardO (cutC S.length S (S'.take S.length) && refsFs S.length []) (.ex _ (S'.take S.length)) = _
  rw [hS, cutC_self]
  rfl
end Md
namespace Md
open PySem PySem.Spec PyProof.Rows L2
/-- classes told apart -/
theorem ExK.one {K : PySem.W.Frag} {mg : Str → Option Value} {x : Str} {C C' : Addr} (a : ExK K mg x C) (b : ExK K mg x C') : C = C' := by
  have := a.g
  rw [b.g] at this
  cases this; rfl
theorem exm_of {K : PySem.W.Frag} {mg : Str → Option Value} {x y : Str} {C D : Addr} (a : ExK K mg x C) (b : ExK K mg y D) (h : PySem.W.subIn K (.ref C) (.ref D) = some true) : PySem.W.exmOne K (.ref C) (.ref D) = some true :=
  PySem.W.exm_ref b.b b.e.hd b.t h
theorem kit_of {K : PySem.W.Frag} {mg : Str → Option Value} {x y : Str} {C D : Addr} {b : Bool} (a : ExK K mg x C) (e : ExK K mg y D) (hs : PySem.W.subIn K (.ref C) (.ref C) = some true) (h : PySem.W.subIn K (.ref C) (.ref D) = some b) : PySem.W.kitOne K (.ref C) (.ref D) = some b := by
  by_cases q : C = D
  · subst q
    rw [hs] at h
    cases h
    unfold PySem.W.kitOne
    simp
  · have hc : (PySem.W.clsIn K D).isSome = true := by
      have := e.e.hd
      unfold PySem.W.hasDictIn at this
      cases z : PySem.W.clsIn K D with
      | none => rw [z] at this; simp at this
      | some _ => rfl
    unfold PySem.W.kitOne PySem.W.kitCls
    rw [if_neg (by simp [q])]
    simp only [hc, e.t, beq_self_eq_true, Bool.and_self, if_true]
    exact h
/-- which of three truth values is the first true one -/
theorem idx_t {S : Sto} {b : Bool} : idxD S [.bl true, .bl b, .bl true] (.bl true) = some 0 := by cases b <;> rfl
theorem idx_ft {S : Sto} : idxD S [.bl false, .bl true, .bl true] (.bl true) = some 1 := rfl
end Md

set_option Elab.async false
set_option linter.all false
set_option maxRecDepth 100000
set_option maxHeartbeats 2000000
/-! Md26: lists whose address is known to be none of the first ones. -/
namespace Md
open PySem PySem.Spec PyProof.Rows L2
section
variable {X : Cx} {W : WX} {es : List Expr} {ml : AD} {t : TA} {pos : Pos}
/-- something of the written part stands behind the first addresses -/
def Two (K : PySem.W.Frag) : Prop := ∃ o, K.lookup 2 = some o
theorem big_of {pins : List (Addr × Obj)} {σ : L2.St} {H : Hp} {s : Shared} (T : Two X.K) (I : Inv X pins σ H s) : s.heap.objs.size ≠ sysModules := by
  obtain ⟨o, ho⟩ := T
  exact Nat.ne_of_gt (Nat.lt_trans (show 1 < 2 by decide) (Heap.lt_size (I.kIn 2 o ho)))
def NewS (xs : List V) (H : Hp) (Q : VK) : Prop := ∀ p, H p = none → p ≠ sysModules → Q (.ref p) (upd H p (.lst xs))
def tLstX (t : TA) : TE := fun σ H Q => t σ H fun xs H1 => xs.length ≤ sizeLine ∧ NewS xs H1 Q
theorem pe_lstX (T : Two X.K) (h : PA X es t) : PE X (.List es pos) (tLstX t) := by
  refine ⟨fun pins s σ H Q I hq => ?_⟩
  refine wpAny_List_spliced (thn (h.run pos pins s σ H _ I hq) fun us s1 ⟨xs, H1, I1, r, z, q⟩ => ⟨by rw [← r.length]; exact z, ?_⟩)
  have hf : H1 s1.heap.objs.size = none := I1.hok.fresh (Nat.le_refl _)
  refine ⟨.ref s1.heap.objs.size, upd H1 s1.heap.objs.size (.lst xs), I1.laid (t' := s1.toks) (fun b u e => Heap.get?_push_of_some _ e) (Nat.le_refl _) ?_, rfl, q _ hf (big_of T I1)⟩
  exact ⟨z, us, 0, r, Heap.get?_push_size _ rfl⟩
theorem call_list_ofX (T : Two X.K) : CallR X (.type "list") (fun xs H Q => ∃ p ys, xs = [.ref p] ∧ (SqL X.K H p ys ∨ SqT X.K H p ys) ∧ NewS ys H Q) := by
  intro pins s σ H xs us Q I r h
  obtain ⟨p, ys, rfl, hq, q⟩ := h
  obtain ⟨u, rfl, rx⟩ := vals1 r
  cases rx
  have done : ∀ (its : List Value), Vals ys its → ys.length ≤ sizeLine → ∀ (h2 : Heap) (c2 : Nat), (∀ b o, s.heap.get? b = some o → h2.get? b = some o) →
      h2.get? s.heap.objs.size = some { cls := .type "list", dict := none, data := .seq its.toArray c2, slots := #[] } → EP X pins σ Q (.ref s.heap.objs.size) { s with heap := h2 } := by
    intro its rv hz h2 c2 kp e
    have ok : ObjOk X.prog X.w (upd H s.heap.objs.size (.lst ys)) h2 s.heap.objs.size (.lst ys) := ⟨hz, its, c2, rv, e⟩
    exact ⟨.ref s.heap.objs.size, _, I.laid (t' := s.toks) kp (Nat.le_refl _) ok, rfl, q _ (I.hok.fresh (Nat.le_refl _)) (big_of T I)⟩
  rcases hq with hq | hq
  · obtain ⟨its, rv, pl, hz⟩ := I.list hq
    have hlen := rv.length
    obtain ⟨o, ho, hc, n, hd⟩ := pl.isList
    refine call_list_seq p (.inl rfl) ho hc hd (fun h2 c2 kp e => done its rv hz h2 c2 kp e) ?_
    simp only [List.size_toArray]
    omega
  · obtain ⟨its, rv, pl, hz⟩ := I.tuple hq
    have hlen := rv.length
    obtain ⟨o, ho, hc, n, hd⟩ := pl
    refine call_list_seq p (.inr rfl) ho hc hd (fun h2 c2 kp e => done its rv hz h2 c2 kp e) ?_
    simp only [List.size_toArray]
    omega
theorem Held.newS {K : PySem.W.Frag} {ρ : List Addr} {H : Hp} {S : Sto} {p : Addr} {ds : List D} {vs : List V} (h : Held K ρ H S) (n : H p = none) (z : p ≠ sysModules) (r : IsL K ρ H ds vs) :
    Held K ρ (upd H p (.lst vs)) S ∧ Ext ρ H ρ (upd H p (.lst vs)) ∧ Is K ρ (upd H p (.lst vs)) (.lsx ds) (.ref p) := by
  obtain ⟨h1, e⟩ := h.fresh (o := .lst vs) n
  refine ⟨h1, e, ?_⟩
  rw [Is]
  exact ⟨p, vs, rfl, ⟨h.out n, z⟩, upd_same, r.ext e⟩
def mLsx (ml : AD) : ED := fun loc S => (ml loc S).bind fun ds S1 => guardO (small ds.length) (.ok (.lsx ds) S1)
theorem pm_lsx (T : Two X.K) (h : PA X es (tA X.K W ml)) : PE X (.List es pos) (tE X.K W (mLsx ml)) :=
  (pe_lstX T h).md fun σ H Q ⟨ρ, loc, S, rl, hd, g⟩ => ⟨ρ, loc, S, rl, hd, Good.bind g fun ds S1 ρ1 H1 xs hd1 e1 r1 g1 => by
    obtain ⟨hs, g2⟩ := g1.guard
    refine ⟨by rw [r1.length]; exact small_line hs, fun p np nz => ?_⟩
    obtain ⟨h3, e3, r3⟩ := hd1.newS np nz r1
    exact g2 ρ1 _ _ h3 e3 r3⟩
def fListX : List D → Sto → Out D
  | [d], S => need (seqOf S d) fun ds => .ok (.lsx ds) S
  | _, _ => .no
theorem cm_listX (T : Two X.K) : CallR X (.type "list") (rCM X.K fListX) := fun pins s σ H xs us Q I r ⟨W, σ', ρ, S, ds, hd, r0, g0⟩ => by
  match ds, r0, g0 with
  | [d], r0, g0 =>
    obtain ⟨es, h1, g⟩ := g0.need
    obtain ⟨x, rfl, r1⟩ := r0.one
    obtain ⟨a, vs, rfl, h3, i3⟩ := hd.seqOf r1 h1
    refine call_list_ofX T pins s σ H _ us Q I r ⟨a, vs, rfl, h3, fun p np nz => ?_⟩
    obtain ⟨h4, e4, r4⟩ := hd.newS np nz i3
    exact g ρ _ _ h4 e4 r4
  | [], _, g0 => exact g0.elim
  | _ :: _ :: _, _, g0 => exact g0.elim
@[simp] theorem r_lsx {loc : Md.Loc} {S : Sto} : mLsx ml loc S = (ml loc S).bind fun ds S1 => guardO (small ds.length) (.ok (.lsx ds) S1) := rfl
@[simp] theorem r_listX {d : D} {S : Sto} : fListX [d] S = need (seqOf S d) fun ds => .ok (.lsx ds) S := rfl
end
end Md

set_option Elab.async false
set_option linter.all false
set_option maxRecDepth 100000
set_option maxHeartbeats 2000000
/-! Md27: a dict display of constants. -/
namespace Md
open PySem PySem.Spec PyProof.Rows L2
section
variable {X : Cx} {W : WX} {pos : Pos}
def cV : D → V
  | .int i => .int i
  | .str x => .str x
  | .bl b => .bl b
  | _ => .non
def constB : D → Bool
  | .int _ => true
  | .str _ => true
  | .bl _ => true
  | .non => true
  | _ => false
theorem constB_is {K : PySem.W.Frag} {ρ : List Addr} {H : Hp} {d : D} (h : constB d = true) : Is K ρ H d (cV d) := by
  cases d <;> first | (rw [Is]; rfl) | cases h
def dctOf (kvs : List (D × D)) : List (D × D) := kvs.foldl (fun acc kv => putD acc kv.1 kv.2) []
def mDispC (kvs : List (D × D)) : ED := fun _ S => .ok (.ref S.length) (S ++ [.dct (dctOf kvs)])
abbrev trC (kvs : List (D × D)) : List (TE × TE) := kvs.map fun p => (tC (cV p.1), tC (cV p.2))
theorem tPairs_c : ∀ (kvs : List (D × D)) {σ : L2.St} {H : Hp} {Q : List (V × V) → Hp → Prop}, Q (kvs.map fun p => (cV p.1, cV p.2)) H → tPairs (trC kvs) σ H Q
  | [], _, _, _, h => h
  | (k, d) :: r, σ, H, Q, h => by
    show tPairs (trC r) σ H fun ps H3 => Q ((cV k, cV d) :: ps) H3
    exact tPairs_c r h
def kvOk (kvs : List (D × D)) : Bool := kvs.all (fun p => (keyD p.1).isSome && constB p.1 && constB p.2) && decide (kvs.length ≤ 15)
theorem kvOk_is {K : PySem.W.Frag} {ρ : List Addr} {H : Hp} : ∀ {kvs : List (D × D)}, (kvs.all fun p => (keyD p.1).isSome && constB p.1 && constB p.2) = true → ∃ ks : List (Key × V), (kvs.map fun p => (cV p.1, cV p.2)) = ks.map (fun kv => (kV kv.1, kv.2)) ∧ IsKV K ρ H kvs ks
  | [], _ => ⟨[], rfl, rfl⟩
  | (k, d) :: r, h => by
    rw [List.all_cons, Bool.and_eq_true, Bool.and_eq_true, Bool.and_eq_true] at h
    obtain ⟨ks, e, i⟩ := kvOk_is (K := K) (ρ := ρ) (H := H) h.2
    obtain ⟨q, hq⟩ := Option.isSome_iff_exists.mp h.1.1.1
    refine ⟨(q, cV d) :: ks, ?_, q, cV d, ks, rfl, hq, constB_is h.1.2, i⟩
    rw [List.map_cons, List.map_cons, e]
    have : cV k = kV q := by
      have := keyD_V hq (constB_is (K := K) (ρ := ρ) (H := H) h.1.1.2)
      exact this
    rw [this]
theorem pm_dispC {keys : List (Option Expr)} {values : List Expr} {kvs : List (D × D)} (h : PPs X pos keys values (trC kvs)) (hall : keys.all (·.isSome) = true) (hl : keys.length = values.length) (h0 : keys ≠ []) (h15 : keys.length ≤ 15) (ok : kvOk kvs = true) :
    PE X (.Dict keys values pos) (tE X.K W (mDispC kvs)) :=
  (pe_disp h hall hl h0 h15).md fun σ H Q ⟨ρ, loc, S, rl, hd, g⟩ p np => by
    unfold kvOk at ok
    rw [Bool.and_eq_true, decide_eq_true_eq] at ok
    refine tPairs_c kvs ?_
    have e : Ext ρ H (ρ ++ [p]) (upd H p (.dK [])) := ⟨⟨[p], rfl⟩, fun a u m q => by
      have ne := ne_of_none q np
      exact ⟨by simp [m, ne], by rw [upd_ne ne]; exact q⟩⟩
    have up : ∀ (o : HO), upd (upd H p (.dK [])) p o = upd H p o := fun o => by
      funext a
      unfold upd
      split <;> rfl
    obtain ⟨ks, e1, i1⟩ := kvOk_is (K := X.K) (ρ := ρ ++ [p]) (H := upd H p (.dK (mergeK [] ([] : List (Key × V))))) ok.1
    obtain ⟨ks, e1, i1⟩ : ∃ ks : List (Key × V), (kvs.map fun p => (cV p.1, cV p.2)) = ks.map (fun kv => (kV kv.1, kv.2)) ∧ ∀ ρ H, IsKV X.K ρ H kvs ks := by
      refine ⟨ks, e1, fun ρ' H' => ?_⟩
      obtain ⟨ks', e2, i2⟩ := kvOk_is (K := X.K) (ρ := ρ') (H := H') ok.1
      have : ks' = ks := by
        have inj : ∀ (a b : List (Key × V)), a.map (fun kv => (kV kv.1, kv.2)) = b.map (fun kv => (kV kv.1, kv.2)) → a = b := by
          intro a
          induction a with
          | nil => intro b h; cases b with
            | nil => rfl
            | cons => cases h
          | cons x a ih => intro b h; cases b with
            | nil => cases h
            | cons y b =>
              rw [List.map_cons, List.map_cons, List.cons.injEq, Prod.mk.injEq] at h
              obtain ⟨⟨h1, h2⟩, h3⟩ := h
              have : x.1 = y.1 := by
                cases hx : x.1 <;> cases hy : y.1 <;> rw [hx, hy] at h1 <;> first | (injection h1 with h1; rw [h1]) | cases h1
              rw [ih b h3, show x = y from Prod.ext this h2]
        exact inj _ _ (e2.symm.trans e1)
      rw [← this]; exact i2
    have lk : ks.length ≤ 15 := by
      have := congrArg List.length e1
      simp at this
      omega
    refine ⟨upd_same, ks, e1, lk, ?_⟩
    rw [up]
    obtain ⟨h3, e3, r3⟩ := hd.push (c := .dct (dctOf kvs)) (o := .dK (mergeK [] ks)) np ⟨mergeK [] ks, upd_same, IsKV.merge kvs [] ks [] (i1 _ _) rfl⟩
    exact g _ _ _ h3 e3 r3
/-- a tuple of constants that the module's top has named -/
def GlT (K : PySem.W.Frag) (mg : Str → Option Value) (x : Str) (ds : List D) : Prop := ∃ a, mg x = some (.ref a) ∧ WrT K a (ds.map cV) ∧ ds.all constB = true
theorem constL_is {K : PySem.W.Frag} {ρ : List Addr} {H : Hp} : ∀ {ds : List D}, ds.all constB = true → IsL K ρ H ds (ds.map cV)
  | [], _ => IsL.nil
  | d :: ds, h => by
    rw [List.all_cons, Bool.and_eq_true] at h
    exact IsL.cons (constB_is h.1) (constL_is h.2)
theorem pm_globT {x : Str} {ds : List D} {p : Pos} (hg : Gl X x) (h : GlT X.K X.mg x ds) (hdb : (x == ("__debug__" : Str)) = false := by decide) : PE X (.Name x p) (tE X.K W (mC (.tup ds))) := by
  obtain ⟨a, h1, h2, h3⟩ := h
  exact pm_c (pe_glob (v := .ref a) hg h1 rfl hdb) fun ρ H => by rw [Is]; exact ⟨a, _, rfl, .inr h2, constL_is h3⟩
theorem glT_mk {K : PySem.W.Frag} {mg : Str → Option Value} {x : Str} {ds : List D} {a : Addr} {its : Array Value} {n : Nat} {sl : Array (Option Value)} (h1 : mg x = some (.ref a)) (h2 : K.lookup a = some ⟨.type "tuple", none, .seq its n, sl⟩) (h3 : Vals (ds.map cV) its.toList) (h4 : ds.all constB = true) (h5 : its.size ≤ sizeLine) : GlT K mg x ds :=
  ⟨a, h1, ⟨_, its, n, h2, rfl, rfl, rfl, h5, h3⟩, h4⟩
@[simp] theorem r_dispC {kvs : List (D × D)} {loc : Md.Loc} {S : Sto} : mDispC kvs loc S = .ok (.ref S.length) (S ++ [.dct (dctOf kvs)]) := rfl
end
end Md
namespace Md
open PySem PySem.Spec PyProof.Rows L2
section
variable {X : Cx}
/-- x != (), x of any items -/
def fNe0 : D → D → Sto → Out D := fun x y S => match x, y with
  | .tup ds, .tup [] => .ok (.bl (!ds.isEmpty)) S
  | x, y => fNe x y S
theorem om_ne0 (hu : X.A.units + 64 < cLine) : OpR X (compareOp .NotEq) (rM X.K fNe0) := fun pins s σ H x y v u Q I rx ry ⟨W, σ', ρ, S, dx, dy, hd, r1, r2, g⟩ => by
  unfold fNe0 at g
  split at g
  · rename_i ds
    obtain ⟨a, vs, rfl, h1, i1⟩ := r1.seqT
    obtain ⟨b, us, rfl, h2, i2⟩ := r2.seqT
    rw [IsL] at i2
    subst i2
    cases rx
    cases ry
    obtain ⟨its, rv, ht, _⟩ := I.tuple h1
    obtain ⟨its2, rv2, ht2, _⟩ := I.tuple h2
    cases rv2
    have q := SeqAt.RcNeAt.tuples (A := X.A) (s := s) (e := fun _ => true) ht ht2 (by omega) (fun j h1 h2 => absurd h2 (by simp))
    refine q X.prog X.w _ _ ?_
    have e : (!((List.range (min its.toArray.size (#[] : Array Value).size)).all (fun _ => true) && its.toArray.size == (#[] : Array Value).size)) = !ds.isEmpty := by
      have l1 := i1.length
      have l2 := rv.length
      cases ds with
      | nil =>
        cases vs with
        | nil => cases its with
          | nil => rfl
          | cons => simp at l2
        | cons => simp at l1
      | cons d ds =>
        cases its with
        | nil => exact absurd (l2.symm.trans l1) (by simp)
        | cons => simp
    exact ⟨.bl _, H, I, rfl, by rw [e]; exact g.ret hd (by rw [Is])⟩
  · exact om_ne hu pins s σ H x y v u Q I rx ry ⟨W, σ', ρ, S, _, _, hd, r1, r2, g⟩
@[simp] theorem r_ne0T {ds : List D} {S : Sto} : fNe0 (.tup ds) (.tup []) S = .ok (.bl (!ds.isEmpty)) S := rfl
end
end Md

set_option Elab.async false
set_option linter.all false
set_option maxRecDepth 100000
set_option maxHeartbeats 2000000
/-! Md28: classes of the module and their instances. -/
namespace Md
open PySem PySem.Spec PyProof.Rows L2
/-- a class by its name -/
structure ClK (K : PySem.W.Frag) (cls : Str) (C : Addr) : Prop where
  n : PySem.W.nsIn K mainGlobals cls = some (some (.ref C))
  c : Cls K C
theorem ClK.one {K : PySem.W.Frag} {cls : Str} {C D : Addr} (a : ClK K cls C) (h : PySem.W.nsIn K mainGlobals cls = some (some (.ref D))) : C = D := by
  have := a.n
  rw [h] at this
  cases this; rfl
def insOf (S : Sto) (d : D) : Option (Nat × Str × List (Str × D)) := match d with
  | .ref l => match S[l]? with
    | some (.ins cls fs) => some (l, cls, fs)
    | _ => none
  | _ => none
def putFD (f : Str) (v : D) : List (Str × D) → List (Str × D)
  | [] => [(f, v)]
  | (g, x) :: r => if g = f then (g, v) :: r else (g, x) :: putFD f v r
section
variable {K : PySem.W.Frag} {ρ ρ' : List Addr} {H H' : Hp} {S : Sto}
theorem insOf_at {d : D} {l : Nat} {cls : Str} {fs : List (Str × D)} {v : V} (hd : Held K ρ H S) (r : Is K ρ H d v) (h : insOf S d = some (l, cls, fs)) :
    d = .ref l ∧ ∃ a C dx vs, v = .ref a ∧ ρ[l]? = some a ∧ PySem.W.nsIn K mainGlobals cls = some (some (.ref C)) ∧ H a = some (.ins C dx vs) ∧ IsFs K ρ H fs vs := by
  unfold insOf at h
  split at h
  · rename_i l'
    split at h
    · rename_i q
      cases h
      obtain ⟨a, rfl, ha, C, dx, vs, h0, h1, h2⟩ := hd.at_ r q
      exact ⟨rfl, a, C, dx, vs, rfl, ha, h0, h1, h2⟩
    · cases h
  · cases h
theorem IsFs.lookup : ∀ {fs : List (Str × D)} {vs : List (Str × V)} {f : Str} {d : D}, IsFs K ρ H fs vs → fs.lookup f = some d → ∃ v, vs.lookup f = some v ∧ Is K ρ H d v
  | [], _, f, d, _, e => by cases e
  | (g, x) :: fs, _, f, d, h, e => by
    obtain ⟨v, t, rfl, h1, h2⟩ := h
    rw [List.lookup_cons] at e ⊢
    split at e
    · rename_i q
      cases e
      exact ⟨v, rfl, h1⟩
    · exact IsFs.lookup h2 e
theorem IsFs.lookupN : ∀ {fs : List (Str × D)} {vs : List (Str × V)} {f : Str}, IsFs K ρ H fs vs → fs.lookup f = none → vs.lookup f = none
  | [], _, f, h, _ => by cases h; rfl
  | (g, x) :: fs, _, f, h, e => by
    obtain ⟨v, t, rfl, h1, h2⟩ := h
    rw [List.lookup_cons] at e ⊢
    split at e
    · cases e
    · exact IsFs.lookupN h2 e
theorem IsFs.length : ∀ {fs : List (Str × D)} {vs : List (Str × V)}, IsFs K ρ H fs vs → vs.length = fs.length
  | [], _, h => by cases h; rfl
  | (g, x) :: fs, _, h => by
    obtain ⟨v, t, rfl, h1, h2⟩ := h
    simp [IsFs.length h2]
theorem IsFs.put {f : Str} {d : D} {v : V} (hv : Is K ρ H d v) : ∀ {fs : List (Str × D)} {vs : List (Str × V)}, IsFs K ρ H fs vs → IsFs K ρ H (putFD f d fs) (putF f v vs)
  | [], _, h => by cases h; exact ⟨v, [], rfl, hv, rfl⟩
  | (g, x) :: fs, _, h => by
    obtain ⟨u, t, rfl, h1, h2⟩ := h
    unfold putFD putF
    by_cases e : g = f
    · rw [if_pos e, if_pos e]
      exact ⟨v, t, rfl, hv, h2⟩
    · rw [if_neg e, if_neg e]
      exact ⟨u, _, rfl, h1, IsFs.put hv h2⟩
end
section
variable {X : Cx} {W : WX} {o e : Expr} {es : List Expr} {mo me : ED} {ml : AD} {f q x : Str} {pos pos' apos p : Pos}
/-- o.f -/
def mFld (cs : List Str) (f : Str) (mo : ED) : ED := fun loc S => (mo loc S).bind fun d S1 => need (insOf S1 d) fun t => guardO (decide (t.2.1 ∈ cs)) (need (t.2.2.lookup f) fun v => .ok v S1)
theorem pm_fld {cs : List Str} (ho : PE X o (tE X.K W mo)) (hc : ∀ c ∈ cs, ∃ C, ClK X.K c C ∧ NoAttr X.K C f) (hb : attributeBase o f X.env (eval o X.env) = eval o X.env := by rfl) : PE X (.Attribute o f pos) (tE X.K W (mFld cs f mo)) :=
  (pe_fld ho hb).md fun σ H Q ⟨ρ, loc, S, rl, hd, g⟩ => ⟨ρ, loc, S, rl, hd, Good.bind g fun d S1 ρ1 H1 v hd1 e1 r1 g1 => by
    obtain ⟨⟨l, cls, fs⟩, h1, g2⟩ := Good.need g1
    obtain ⟨hm, g3⟩ := Good.guard g2
    obtain ⟨w, h2, g4⟩ := Good.need g3
    obtain ⟨rfl, a, C, dx, vs, rfl, ha, h0, h3, h4⟩ := insOf_at hd1 r1 h1
    obtain ⟨C', T, na⟩ := hc cls (of_decide_eq_true hm)
    obtain rfl := T.one h0
    obtain ⟨u, h5, h6⟩ := h4.lookup h2
    exact ⟨a, C', dx, vs, u, rfl, h3, T.c, na, h5, g4.ret hd1 h6⟩⟩
/-- o.f = e -/
def sFldS (cs : List Str) (f : Str) (mo me : ED) : SD := fun loc S => (me loc S).thn loc fun v S1 => (mo loc S1).thn loc fun d S2 => needS (insOf S2 d) fun t => guardS (decide (t.2.1 ∈ cs) && decide (t.2.2.length < 1000)) (.nx loc (S2.set t.1 (.ins t.2.1 (putFD f v t.2.2))))
theorem pms_fld {cs : List Str} (ho : PE X o (tE X.K W mo)) (he : PE X e (tE X.K W me)) (hc : ∀ c ∈ cs, ∃ C, ClK X.K c C ∧ NoAttr X.K C f) (hs : swapsWith e (some (.Attribute o f pos')) pos.line X.env = pure false := by rfl) :
    PS X (.Assign [.Attribute o f pos'] e pos) (tS X.K W (sFldS cs f mo me)) :=
  (ps_fld ho he hs).md fun En σ H ⟨ρ, loc, S, rl, hd, g⟩ => ⟨ρ, loc, S, rl, hd, GoodS.thn rl g fun d S1 ρ1 H1 y hd1 e1 r1 g1 => ⟨ρ1, loc, S1, rl.ext e1, hd1, GoodS.thn (rl.ext e1) g1 fun d2 S2 ρ2 H2 x hd2 e2 r2 g2 => by
    obtain ⟨⟨l, cls, fs⟩, h1, g3⟩ := GoodS.need g2
    obtain ⟨hm, g4⟩ := GoodS.guard g3
    rw [Bool.and_eq_true] at hm
    obtain ⟨rfl, a, C, dx, vs, rfl, ha, h0, h3, h4⟩ := insOf_at hd2 r2 h1
    obtain ⟨C', T, na⟩ := hc cls (of_decide_eq_true hm.1)
    obtain rfl := T.one h0
    refine ⟨a, C', dx, vs, rfl, h3, T.c, na, by rw [h4.length]; exact of_decide_eq_true hm.2, ?_⟩
    have ew : Ext ρ2 H2 ρ2 (upd H2 a (.ins C' dx (putF f y vs))) := Held.ext_write (List.mem_of_getElem? ha)
    obtain ⟨h5, e5⟩ := hd2.write (c := .ins cls (putFD f d fs)) ha ⟨C', dx, putF f y vs, h0, upd_same, (IsFs.put (r1.ext e2) h4).ext ew⟩
    exact g4 _ _ _ h5 e5 (((rl.ext e1).ext e2).ext e5)⟩⟩
/-- a method of a class by its name -/
structure MetAt (P : Program) (w : World) (K : PySem.W.Frag) (mg : Str → Option Value) (base : Heap) (cls q : Str) (k : Nat) (ps : List Str) (m : List D → Sto → Out D) : Prop where
  ex : ∃ (C f : Addr) (fd : FuncData), ClK K cls C ∧ Meth K C q f ∧ FnG P w K mg base k f fd ps m ∧ Binds K fd ps []
  len : Len ps.length m
/-- o.q(..): by the class of o -/
def mMeth (tb : List (Str × (List D → Sto → Out D))) (q : Str) (mo : ED) (ml : AD) : ED := fun loc S => (mo loc S).bind fun d S1 => need (insOf S1 d) fun t => need (tb.lookup t.2.1) fun m => guardO (t.2.2.lookup q).isNone ((ml loc S1).bind fun ds S2 => m (d :: ds) S2)
def MetTab (P : Program) (w : World) (K : PySem.W.Frag) (mg : Str → Option Value) (base : Heap) (q : Str) (k : Nat) (tb : List (Str × (List D → Sto → Out D))) : Prop := ∀ c m, tb.lookup c = some m → ∃ ps, MetAt P w K mg base c q k ps m
theorem metTab_nil {P : Program} {w : World} {K : PySem.W.Frag} {mg : Str → Option Value} {base : Heap} {k : Nat} : MetTab P w K mg base q k [] := fun c m h => by cases h
theorem MetAt.mono {P : Program} {w : World} {K : PySem.W.Frag} {mg : Str → Option Value} {base : Heap} {cls : Str} {j k : Nat} {ps : List Str} {m : List D → Sto → Out D} (h : MetAt P w K mg base cls q j ps m) (le : j ≤ k) : MetAt P w K mg base cls q k ps m := by
  obtain ⟨⟨C, f, fd, a, b, c, d⟩, l⟩ := h
  exact ⟨⟨C, f, fd, a, b, c.mono le, d⟩, l⟩
theorem metTab_cons {P : Program} {w : World} {K : PySem.W.Frag} {mg : Str → Option Value} {base : Heap} {c : Str} {j k : Nat} {ps : List Str} {m : List D → Sto → Out D} {tb : List (Str × (List D → Sto → Out D))} (h : MetAt P w K mg base c q j ps m) (le : j ≤ k) (t : MetTab P w K mg base q k tb) : MetTab P w K mg base q k ((c, m) :: tb) := fun c' m' e => by
  rw [List.lookup_cons] at e
  split at e
  · rename_i z
    cases e
    have : c' = c := by simpa using z
    subst this
    exact ⟨ps, h.mono le⟩
  · exact t c' m' e
theorem meth_run {k j : Nat} {C fa : Addr} {fd : FuncData} {ps : List Str} {m : List D → Sto → Out D} {pins : List (Addr × Obj)} {σ : L2.St} {H : Hp} {s : Shared} {Q : VK} {a : Addr} {us : List Value} {vs : List V} {ρ : List Addr} {l : Nat} {ds : List D} {S : Sto} (F : FnG X.prog X.w X.K X.mg X.base k fa fd ps m) (len : Len ps.length m) (hr : Ard k X.A) (hb : Binds X.K fd ps []) (tk : Takes X W)
    (I : Inv X pins σ H s) (r : Vals vs us) (hd : Held X.K ρ H S) (h0 : Is X.K ρ H (.ref l) (.ref a)) (h1 : IsL X.K ρ H ds vs) (g : Good X.K W σ (Is X.K) Q ρ H (m (.ref l :: ds) S)) :
    wpAny (model X.prog X.w) X.A (call (.ref fa) (.ref a :: us)) (EP X pins σ Q) X.xe s := by
  rw [← len] at g
  have g : Good X.K W σ (Is X.K) Q ρ H (if (.ref l :: ds : List D).length = ps.length then m (.ref l :: ds) S else .no) := g
  by_cases hl : (.ref l :: ds : List D).length = ps.length
  · rw [if_pos hl] at g
    refine runG (us := .ref a :: us) (vs := .ref a :: vs) F hr hb tk I (.cons rfl r) ⟨ρ, .ref l :: ds, S, hl, IsL.cons h0 h1, hd, ?_⟩
    cases ho : m (.ref l :: ds) S with
    | ok b S2 => rw [ho] at g; exact g
    | ex b S2 => rw [ho] at g; exact g
    | no => rw [ho] at g; exact g
  · rw [if_neg hl] at g; exact g.elim
theorem pm_meth {pl : Sem Bool} {k j : Nat} {tb : List (Str × (List D → Sto → Out D))} (T : MetTab X.prog X.w X.K X.mg X.base q k tb) (hr : Ard j X.A) (hk : k ≤ j) (tk : Takes X W) (ho : PE X o (tE X.K W mo)) (ha : PA X (e :: es) (tA X.K W ml))
    (hst : starEach (e :: es) X.env = (false, eval e X.env) :: starEach es X.env := by rfl) (hpl : (backTo pos (starEach es X.env)).any (·.1) = false := by rfl)
    (ht : eval (.Call (.Attribute o q apos) (e :: es) [] pos) X.env = (do
      let ov ← eval o X.env
      standAt apos.atName
      let (f, first) ← holding [ov] (getMethod ov q pl)
      callWith pos f first (backTo pos (starEach (e :: es) X.env)) (backToKw pos (keywordEach [] X.env))) := by rfl) :
    PE X (.Call (.Attribute o q apos) (e :: es) [] pos) (tE X.K W (mMeth tb q mo ml)) := by
  refine ⟨fun pins s σ H Q I ⟨ρ, loc, S, rl, hd, g⟩ => ?_⟩
  refine PySem.W.methodCall_KW (pl := pl) (thn (ho.run pins s σ H (fun x H1 => ∃ ρ1 S1 l cls fs m, Held X.K ρ1 H1 S1 ∧ RelL X.K ρ1 σ H1 loc ∧ Is X.K ρ1 H1 (.ref l) x ∧ insOf S1 (.ref l) = some (l, cls, fs) ∧ tb.lookup cls = some m ∧ fs.lookup q = none ∧
      Good X.K W σ (Is X.K) Q ρ1 H1 ((ml loc S1).bind fun ds S2 => m (.ref l :: ds) S2)) I ⟨ρ, loc, S, rl, hd, Good.bind g fun d S1 ρ1 H1 x hd1 e1 r1 g1 => by
        obtain ⟨⟨l, cls, fs⟩, h1, g2⟩ := Good.need g1
        obtain ⟨m, h2, g3⟩ := Good.need g2
        obtain ⟨h3, g4⟩ := Good.guard g3
        obtain ⟨rfl, _⟩ := insOf_at hd1 r1 h1
        exact ⟨ρ1, S1, l, cls, fs, m, hd1, rl.ext e1, r1, h1, h2, by simpa using h3, g4⟩⟩) fun u s1 ⟨x, H1, I1, rx, ρ1, S1, l, cls, fs, m, hd1, rl1, r1, h1, h2, h3, g1⟩ => ?_) ht
  obtain ⟨_, a, C, dx, vs, rfl, ha', h0, h4, h5⟩ := insOf_at hd1 r1 h1
  obtain rfl : u = Value.ref a := rx
  obtain ⟨ps, ⟨⟨C', fa, fd, T1, hm, F, hb⟩, len⟩⟩ := T cls m h2
  obtain rfl := T1.one h0
  refine getmeth_ok I1 h4 T1.c hm (h5.lookupN h3) ?_
  refine PySem.W.callWith_K (first := [.ref a]) (h₀ := X.base) I1.ok.mod.kin hm.kp (thn (ha.run pos pins s1 σ H1 (fun vs H2 => ∃ ρ2 S2 ds, Held X.K ρ2 H2 S2 ∧ Is X.K ρ2 H2 (.ref l) (.ref a) ∧ IsL X.K ρ2 H2 ds vs ∧ Good X.K W σ (Is X.K) Q ρ2 H2 (m (.ref l :: ds) S2)) I1
    ⟨ρ1, loc, S1, rl1, hd1, Good.bind g1 fun ds S2 ρ2 H2 vs hd2 e2 r2 g2 => ⟨ρ2, S2, ds, hd2, r1.ext e2, r2, g2⟩⟩) fun us s2 ⟨vs, H2, I2, r, ρ2, S2, ds, hd2, i0, i1, g2⟩ => ⟨I2.kIn, ?_⟩) hst hpl
  exact meth_run (j := j) (C := C') F len (hr.mono hk) hb tk I2 r hd2 i0 i1 g2
theorem pm_meth0 {pl : Sem Bool} {k j : Nat} {tb : List (Str × (List D → Sto → Out D))} (T : MetTab X.prog X.w X.K X.mg X.base q k tb) (hr : Ard j X.A) (hk : k ≤ j) (tk : Takes X W) (ho : PE X o (tE X.K W mo))
    (ht : eval (.Call (.Attribute o q apos) [] [] pos) X.env = (do
      let ov ← eval o X.env
      standAt apos.atName
      let (f, first) ← holding [ov] (getMethod ov q pl)
      callWith pos f first (backTo pos (starEach [] X.env)) (backToKw pos (keywordEach [] X.env))) := by rfl) :
    PE X (.Call (.Attribute o q apos) [] [] pos) (tE X.K W (mMeth tb q mo mNil)) := by
  refine ⟨fun pins s σ H Q I ⟨ρ, loc, S, rl, hd, g⟩ => ?_⟩
  refine PySem.W.methodCall_KW (pl := pl) (thn (ho.run pins s σ H (fun x H1 => ∃ ρ1 S1 l cls fs m, Held X.K ρ1 H1 S1 ∧ Is X.K ρ1 H1 (.ref l) x ∧ insOf S1 (.ref l) = some (l, cls, fs) ∧ tb.lookup cls = some m ∧ fs.lookup q = none ∧
      Good X.K W σ (Is X.K) Q ρ1 H1 (m [.ref l] S1)) I ⟨ρ, loc, S, rl, hd, Good.bind g fun d S1 ρ1 H1 x hd1 e1 r1 g1 => by
        obtain ⟨⟨l, cls, fs⟩, h1, g2⟩ := Good.need g1
        obtain ⟨m, h2, g3⟩ := Good.need g2
        obtain ⟨h3, g4⟩ := Good.guard g3
        obtain ⟨rfl, _⟩ := insOf_at hd1 r1 h1
        exact ⟨ρ1, S1, l, cls, fs, m, hd1, r1, h1, h2, by simpa using h3, g4⟩⟩) fun u s1 ⟨x, H1, I1, rx, ρ1, S1, l, cls, fs, m, hd1, r1, h1, h2, h3, g1⟩ => ?_) ht
  obtain ⟨_, a, C, dx, vs, rfl, ha', h0, h4, h5⟩ := insOf_at hd1 r1 h1
  obtain rfl : u = Value.ref a := rx
  obtain ⟨ps, ⟨⟨C', fa, fd, T1, hm, F, hb⟩, len⟩⟩ := T cls m h2
  obtain rfl := T1.one h0
  refine getmeth_ok I1 h4 T1.c hm (h5.lookupN h3) ?_
  exact PySem.W.callWith_K0 (first := [.ref a]) I1.kIn hm.kp (meth_run (j := j) (C := C') (us := []) F len (hr.mono hk) hb tk I1 .nil hd1 r1 IsL.nil g1)
/-- a class that is made by __init__ -/
structure MkAt (P : Program) (w : World) (K : PySem.W.Frag) (mg : Str → Option Value) (base : Heap) (cls : Str) (k : Nat) (ps : List Str) (m : List D → Sto → Out D) : Prop where
  ex : ∃ (C f : Addr) (fd : FuncData), ClK K cls C ∧ mg cls = some (.ref C) ∧ Mk K C f ∧ FnG P w K mg base k f fd ps m ∧ Binds K fd ps []
  len : Len ps.length m
def mMake (cls : Str) (minit : List D → Sto → Out D) (ml : AD) : ED := fun loc S => (ml loc S).bind fun ds S1 => (minit (.ref S1.length :: ds) (S1 ++ [.ins cls []])).bind fun r S2 => guardO (decide (r = .non)) (.ok (.ref S1.length) S2)
theorem make_run {k j : Nat} {C fa : Addr} {fd : FuncData} {cls : Str} {ps : List Str} {m : List D → Sto → Out D} {pins : List (Addr × Obj)} {σ : L2.St} {H : Hp} {s : Shared} {Q : VK} {us : List Value} {vs : List V} {ρ : List Addr} {ds : List D} {S : Sto} (T : ClK X.K cls C) (M : Mk X.K C fa) (F : FnG X.prog X.w X.K X.mg X.base k fa fd ps m) (len : Len ps.length m) (hr : Ard (k + 1) X.A) (hb : Binds X.K fd ps []) (tk : Takes X W)
    (I : Inv X pins σ H s) (r : Vals vs us) (hd : Held X.K ρ H S) (h1 : IsL X.K ρ H ds vs) (g : Good X.K W σ (Is X.K) Q ρ H ((m (.ref S.length :: ds) (S ++ [.ins cls []])).bind fun r S2 => guardO (decide (r = .non)) (.ok (.ref S.length) S2))) :
    wpAny (model X.prog X.w) X.A (call (.ref C) us) (EP X pins σ Q) X.xe s := by
  have nx : H (s.heap.objs.size + 1) = none := I.hok.fresh (Nat.le_succ _)
  have ndx : H s.heap.objs.size = none := I.hok.fresh (Nat.le_refl _)
  have ne : s.heap.objs.size ≠ s.heap.objs.size + 1 := Nat.ne_of_lt (Nat.lt_succ_self _)
  have I2 := Inv.made (C := C) I
  generalize hx : s.heap.objs.size + 1 = x at *
  generalize hdx : s.heap.objs.size = dx at *
  obtain ⟨hd1, e1⟩ := hd.fresh (o := .own x) ndx
  have nx1 : (upd H dx (.own x)) x = none := by rw [upd_ne ne.symm]; exact nx
  obtain ⟨hd2, e2, r2⟩ := hd1.push (c := .ins cls []) (o := .ins C dx []) nx1 ⟨C, dx, [], T.n, upd_same, rfl⟩
  have e12 := e1.trans e2
  rw [← len] at g
  have g : Good X.K W σ (Is X.K) Q ρ H ((if (.ref S.length :: ds : List D).length = ps.length then m (.ref S.length :: ds) (S ++ [.ins cls []]) else .no).bind fun r S2 => guardO (decide (r = .non)) (.ok (.ref S.length) S2)) := g
  by_cases hl : (.ref S.length :: ds : List D).length = ps.length
  · rw [if_pos hl] at g
    have hul : us.length = ds.length := r.length.symm.trans h1.length
    have hll : (Value.ref x :: us).length = ps.length := by rw [← hl]; simp [hul]
    have hsp : spM X.K ps.length m (.ref x :: vs) (upd (upd H dx (.own x)) x (.ins C dx [])) (fun v H2 => v = .non ∧ Q (.ref x) H2) (WE W σ) := by
      refine ⟨ρ ++ [x], .ref S.length :: ds, S ++ [.ins cls []], hl, IsL.cons r2 (h1.ext e12), hd2, ?_⟩
      cases ho : m (.ref S.length :: ds) (S ++ [.ins cls []]) with
      | ok d S3 =>
        rw [ho] at g
        intro ρ3 H3 b hd3 e3 r3
        obtain ⟨hn, g2⟩ := Good.guard (Good.ext (show Good X.K W σ (Is X.K) Q ρ H (guardO (decide (d = .non)) (.ok (.ref S.length) S3)) from g) (e12.trans e3))
        have hn := of_decide_eq_true hn
        subst hn
        rw [Is] at r3
        exact ⟨r3, g2.ret hd3 (r2.ext e3)⟩
      | ex y S3 =>
        rw [ho] at g
        exact fun ρ3 H3 c d hd3 e3 ix => g ρ3 H3 c d hd3 (e12.trans e3) ix
      | no => rw [ho] at g; exact g.elim
    have b := hb _ (Value.ref x :: us) I2.kIn (by rw [List.append_nil]; exact hll)
    rw [List.append_nil] at b
    subst hdx hx
    refine wpAny_call (make_map (f := fa) I.kIn M.makes M.init (beq_iff_eq.mp M.fn) (codeAny_mono (F.run _ X.stack _ _ ⟨Value.ref (s.heap.objs.size + 1) :: us, []⟩ (Value.ref (s.heap.objs.size + 1) :: us) (.ref (s.heap.objs.size + 1) :: vs) _ (WE W σ) (hr.room.make C us []) hr.grd
      (I2.env0.make C us []) b (.cons rfl r) hsp) fun r s' hq' => ?_))
    cases r with
    | error e => exact passAt tk σ pins _ _ e s' I2 hq'
    | ok fl =>
      cases fl with
      | ret u =>
        obtain ⟨v, H', I3, rv, ev, q3⟩ := I2.after hq'
        subst ev
        exact ⟨rv, ⟨V.ref (s.heap.objs.size + 1), H', I3, rfl, q3⟩⟩
      | next => exact False.elim hq'
      | brk => exact False.elim hq'
      | cont => exact False.elim hq'
  · rw [if_neg hl] at g; exact g.elim
theorem pm_make {k j : Nat} {cls : Str} {ps : List Str} {m : List D → Sto → Out D} (T : MkAt X.prog X.w X.K X.mg X.base cls k ps m) (hr : Ard j X.A) (hk : k + 1 ≤ j) (tk : Takes X W) (hg : Gl X cls) (ha : PA X (e :: es) (tA X.K W ml))
    (hdb : (cls == ("__debug__" : Str)) = false := by decide) (he : starEach (e :: es) X.env = (false, eval e X.env) :: starEach es X.env := by rfl) (hpl : (backTo pos (starEach es X.env)).any (·.1) = false := by rfl) :
    PE X (.Call (.Name cls p) (e :: es) [] pos) (tE X.K W (mMake cls m ml)) := by
  obtain ⟨⟨C, fa, fd, T1, hm, M, F, hb⟩, len⟩ := T
  refine ⟨fun pins s σ H Q I ⟨ρ, loc, S, rl, hd, g⟩ => ?_⟩
  refine wpAny_Call_Name_kw (ld_glob I hg hm ?_ hdb)
  refine PySem.W.callWith_K (h₀ := X.base) I.ok.mod.kin M.kp (thn (ha.run pos pins s σ H (fun vs H1 => ∃ ρ1 S1 ds, Held X.K ρ1 H1 S1 ∧ IsL X.K ρ1 H1 ds vs ∧ Good X.K W σ (Is X.K) Q ρ1 H1 ((m (.ref S1.length :: ds) (S1 ++ [.ins cls []])).bind fun r S2 => guardO (decide (r = .non)) (.ok (.ref S1.length) S2))) I
    ⟨ρ, loc, S, rl, hd, Good.bind g fun ds S1 ρ1 H1 vs hd1 e1 r1 g1 => ⟨ρ1, S1, ds, hd1, r1, g1⟩⟩) fun us s1 ⟨vs, H1, I1, r, ρ1, S1, ds, hd1, r1, g1⟩ => ⟨I1.kIn, ?_⟩) he hpl
  exact make_run (j := j) T1 M F len (hr.mono hk) hb tk I1 r hd1 r1 g1
theorem pm_make0 {k j : Nat} {cls : Str} {ps : List Str} {m : List D → Sto → Out D} (T : MkAt X.prog X.w X.K X.mg X.base cls k ps m) (hr : Ard j X.A) (hk : k + 1 ≤ j) (tk : Takes X W) (hg : Gl X cls) (hdb : (cls == ("__debug__" : Str)) = false := by decide) :
    PE X (.Call (.Name cls p) [] [] pos) (tE X.K W (mMake cls m mNil)) := by
  obtain ⟨⟨C, fa, fd, T1, hm, M, F, hb⟩, len⟩ := T
  refine ⟨fun pins s σ H Q I ⟨ρ, loc, S, rl, hd, g⟩ => ?_⟩
  refine wpAny_Call_Name_kw (ld_glob I hg hm ?_ hdb)
  exact PySem.W.callWith_K0 I.kIn M.kp (make_run (j := j) (us := []) (vs := []) (ds := []) T1 M F len (hr.mono hk) hb tk I .nil hd IsL.nil g)
end
section
variable {P : Program} {w : World} {K : PySem.W.Frag} {mg : Str → Option Value} {base : Heap} {k : Nat} {cls q qual : Str} {st : Stmt} {N ps : List Str} {ms : SD} {m : List D → Sto → Out D}
/-- a def of a class: where it stands -/
structure MFun (K : PySem.W.Frag) (cls q qual : Str) (st : Stmt) (ps : List Str) : Prop where
  ex : ∃ (C f : Addr) (fd : FuncData), ClK K cls C ∧ Fun K q qual st f fd ∧ Meth K C q f ∧ Binds K fd ps []
theorem metAt (F : MFun K cls q qual st ps) (S : FnScope N ps (defScope st)) (hm : m = mDef N.length ps.length ms ∨ m = mDefU N.length ps.length ms)
    (hb : ∀ (f : Addr) (cdv : Value) (A : Around) (outer : List Env) (s : Shared) (H : Hp) (E : XK), Ard k (cxG P w K mg base N qual st f cdv A outer s H E).A →
      PSs (cxG P w K mg base N qual st f cdv A outer s H E) (defBody st) (tS K (WK E) ms)) : MetAt P w K mg base cls q (k + 1) ps m := by
  obtain ⟨C, f, fd, T, F, h1, h2⟩ := F.ex
  refine ⟨⟨C, f, fd, T, h1, fnG F S hm (hb f), h2⟩, ?_⟩
  rcases hm with rfl | rfl
  · exact mDef_len
  · exact mDefU_len
structure IFun (K : PySem.W.Frag) (mg : Str → Option Value) (cls qual : Str) (st : Stmt) (ps : List Str) : Prop where
  ex : ∃ (C f : Addr) (fd : FuncData), ClK K cls C ∧ mg cls = some (.ref C) ∧ Mk K C f ∧ Fun K "__init__" qual st f fd ∧ Binds K fd ps []
theorem mkAt (F : IFun K mg cls qual st ps) (S : FnScope N ps (defScope st)) (hm : m = mDef N.length ps.length ms ∨ m = mDefU N.length ps.length ms)
    (hb : ∀ (f : Addr) (cdv : Value) (A : Around) (outer : List Env) (s : Shared) (H : Hp) (E : XK), Ard k (cxG P w K mg base N qual st f cdv A outer s H E).A →
      PSs (cxG P w K mg base N qual st f cdv A outer s H E) (defBody st) (tS K (WK E) ms)) : MkAt P w K mg base cls (k + 1) ps m := by
  obtain ⟨C, f, fd, T, h0, h1, F, h2⟩ := F.ex
  refine ⟨⟨C, f, fd, T, h0, h1, fnG F S hm (hb f), h2⟩, ?_⟩
  rcases hm with rfl | rfl
  · exact mDef_len
  · exact mDefU_len
end
section
variable {loc : Md.Loc} {S : Sto} {mo me : ED} {ml : AD} {f q cls : Str} {cs : List Str}
@[simp] theorem r_fld : mFld cs f mo loc S = (mo loc S).bind fun d S1 => need (insOf S1 d) fun t => guardO (decide (t.2.1 ∈ cs)) (need (t.2.2.lookup f) fun v => .ok v S1) := rfl
@[simp] theorem r_fldS : sFldS cs f mo me loc S = (me loc S).thn loc fun v S1 => (mo loc S1).thn loc fun d S2 => needS (insOf S2 d) fun t => guardS (decide (t.2.1 ∈ cs) && decide (t.2.2.length < 1000)) (.nx loc (S2.set t.1 (.ins t.2.1 (putFD f v t.2.2)))) := rfl
@[simp] theorem r_meth {tb : List (Str × (List D → Sto → Out D))} : mMeth tb q mo ml loc S = (mo loc S).bind fun d S1 => need (insOf S1 d) fun t => need (tb.lookup t.2.1) fun m => guardO (t.2.2.lookup q).isNone ((ml loc S1).bind fun ds S2 => m (d :: ds) S2) := rfl
@[simp] theorem r_make {m : List D → Sto → Out D} : mMake cls m ml loc S = (ml loc S).bind fun ds S1 => (m (.ref S1.length :: ds) (S1 ++ [.ins cls []])).bind fun r S2 => guardO (decide (r = .non)) (.ok (.ref S1.length) S2) := rfl
@[simp] theorem q_ins {l : Nat} : insOf S (.ref l) = (match S[l]? with | some (.ins cls fs) => some (l, cls, fs) | _ => none) := rfl
end
end Md

set_option Elab.async false
set_option linter.all false
set_option maxRecDepth 100000
set_option maxHeartbeats 4000000
/-! Md29: errors with a field; several except clauses. -/
namespace Md
open PySem PySem.Spec PyProof.Rows L2
/-! ### several clauses, with a name or without -/
def endsI (oi : Option Nat) (D : Ends) : Ends := match oi with
  | some i => { nx := fun σ' H' => D.nx (σ'.set i none) H', rt := D.rt, bk := fun σ' H' => D.bk (σ'.set i none) H', ct := fun σ' H' => D.ct (σ'.set i none) H' }
  | none => D
def bindI (oi : Option Nat) (a : Addr) (σ : L2.St) : L2.St := match oi with
  | some i => σ.set i (some (.ref a))
  | none => σ
abbrev HdL := List (Value × Option Nat × (Addr → Value → Option Addr → TS))
def wManyA (K : PySem.W.Frag) (Wout : WX) (D : Ends) : HdL → WX
  | [] => Wout
  | (c, oi, ts) :: r => fun cls d σ H => ∃ b, PySem.W.exmOne K cls c = some b ∧ (b = true → ∀ a, H a = none → ts a cls d (endsI oi D) (bindI oi a σ) H) ∧ (b = false → wManyA K Wout D r cls d σ H)
inductive HdsA (X : Cx) : List ExceptHandler → HdL → Prop
  | nil : HdsA X [] []
  | pl {x : Str} {c : Value} {ts : Addr → Value → Option Addr → TS} {b₀ : Stmt} {suite : List Stmt} {np pos' : Pos} {hds : List ExceptHandler} {l : HdL} (hc : Names X x c)
      (hsu : ∀ (a : Addr) (oe : Obj) (cls : Value) (d : Option Addr) (pn : List (Addr × Obj)), Zc cls d oe → (∃ vs, oe.data = .fields vs) → PSs (X.suite a ((a, oe) :: pn)) (b₀ :: suite) (ts a cls d)) (r : HdsA X hds l) :
      HdsA X (.ExceptHandler (some (.Name x np)) none (b₀ :: suite) pos' :: hds) ((c, none, ts) :: l)
  | as {x n : Str} {c : Value} {i : Nat} {ts : Addr → Value → Option Addr → TS} {b₀ : Stmt} {suite : List Stmt} {np pos' : Pos} {hds : List ExceptHandler} {l : HdL} (hc : Names X x c) (hi : X.N[i]? = some n) (hln : X.env.kindOf n = some .local)
      (hsu : ∀ (a : Addr) (oe : Obj) (cls : Value) (d : Option Addr) (pn : List (Addr × Obj)), Zc cls d oe → (∃ vs, oe.data = .fields vs) → PSs (X.suite a ((a, oe) :: pn)) (b₀ :: suite) (ts a cls d)) (r : HdsA X hds l) :
      HdsA X (.ExceptHandler (some (.Name x np)) (some n) (b₀ :: suite) pos' :: hds) ((c, some i, ts) :: l)
section
variable {X : Cx} {body : List Stmt} {h₀ : ExceptHandler} {hds : List ExceptHandler} {l : HdL} {pos : Pos} {tb : WX → TS} {Wout : WX}
theorem ps_try_manyA (hs : X.stack = X.env :: X.outer) (hf : X.env.frame = some X.env.locals) (hN : X.N.Nodup) (tk : Takes X Wout)
    (hb : ∀ (W : WX) (pn : List (Addr × Obj)) (xe : Value → Shared → Prop), Takes (X.tr pn xe) W → PassesOwn (model X.prog X.w) X.A X.env xe → PSs (X.tr pn xe) body (tb W))
    (hh : HdsA X (h₀ :: hds) l) : PS X (.Try body (h₀ :: hds) [] [] pos) (fun D σ H => tb (wManyA X.K Wout D l) D σ H) := by
  refine ⟨fun pins s σ H D I h => ?_⟩
  have ok := I.ok
  have hfr : X.A.frames = some (X.env :: X.outer) := by rw [ok.frames, hs]
  refine wpAny_Try_except ?_
  refine wpAny_mono ((hb (wManyA X.K Wout D l) (X.pn ++ pins) (fun e s₁ => wpAny (model X.prog X.w) X.A (noteFrame e X.env) (fun _ s₂ => wpAny (model X.prog X.w) X.A (setFlight e none) (fun _ s₃ =>
    wpAny (model X.prog X.w) X.A (handleBy e X.env (h₀ :: hds)) (SP X pins D) X.xe s₃) X.xe s₂) X.xe s₁) (fun u s' xx => ?_) PassesOwn.looking).run [] s σ H D (I.toTry _) h) (fun f s1 hsp => ?_) (fun e s1 he => he)
  · obtain ⟨a, B, sI, pins', σ', H', cls, d, rfl, J', nb, up, sky, na, os, ag, w⟩ := xx
    have J : Inv X pins σ' H' sI := J'.ofTry ok
    have sky' : Sky B (X.env :: X.outer) a (Zc cls d) X.env.locals s'.heap := by rw [← hs]; exact sky
    show wpAny (model X.prog X.w) X.A (noteFrame (.ref a) X.env) _ _ _
    refine Sky.land Zc.steady hfr hf sky' fun h3 fl3 up3 => ?_
    have J3 : Inv X pins σ' H' { s' with heap := h3 } := J.landed nb fl3.1 (up.trans up3) os ag
    obtain ⟨oe3, vs3, he3, hz3, hd3⟩ := fl3.there
    have nfr : a ∉ frs (X.env :: X.outer) := fun hm => by
      obtain ⟨_, o', e', hnf⟩ := fl3.2.2.1.mem hm
      rw [he3] at e'; cases e'
      exact hnf _ hd3
    have nL : a ≠ X.env.locals := fun z => nfr (List.mem_filterMap.mpr ⟨X.env, List.mem_cons_self, by rw [hf, z]⟩)
    have nF : a ∉ X.fs := fun hm => by
      obtain ⟨e, he, q⟩ := List.mem_filterMap.mp hm
      exact nfr (List.mem_filterMap.mpr ⟨e, List.mem_cons_of_mem _ he, q⟩)
    have S3 := J3.suite he3 hd3 na nL nF
    have LT : PySem.W.Looks (model X.prog X.w) h3 (typeOf (.ref a)) cls := fun A Q E s k q => wpAny_typeOf_ref (k _ _ he3) (by rw [hz3.1]; exact q)
    have test : ∀ {x : Str} {c : Value} {np : Pos}, Names X x c → ∀ {Q : Value → Shared → Prop} {E : Value → Shared → Prop}, Q c { s' with heap := h3 } → wpAny (model X.prog X.w) (X.A.mark (some (.ref a))) (eval (.Name x np) X.env) Q E { s' with heap := h3 } := fun {x c np} hc {Q E} q => by
      obtain ⟨hg, hdbg, hm | ⟨hm, hv, hnn⟩⟩ := hc
      · exact ld_glob (X := X.suite a ((a, oe3) :: (X.pn ++ pins))) S3 hg hm q hdbg
      · exact ld_blt (X := X.suite a ((a, oe3) :: (X.pn ++ pins))) S3 hg hm hv q hnn hdbg
    have go : ∀ {hds' : List ExceptHandler} {l' : HdL}, HdsA X hds' l' → wManyA X.K Wout D l' cls d σ' H' → wpAny (model X.prog X.w) X.A (handleBy (.ref a) X.env hds') (SP X pins D) X.xe { s' with heap := h3 } := by
      intro hds' l' hk
      induction hk with
      | nil =>
        intro w
        refine wpAny_handleBy_nil ?_
        obtain ⟨k1, k2, k3, oe, vs, T, oT, ts', he, hz, hd, h1, hr⟩ := id fl3
        unfold PySem.passOn
        refine wpAny_bind (wpAny_field he hd h1 ?_)
        rw [if_neg (show ¬ ((Value.ref T == Value.none) = true) from by simp)]
        have fin : wpAny (model X.prog X.w) X.A (setFlight (.ref a) X.env.frame) (fun _ s4 => wpAny (model X.prog X.w) X.A (throw (.ref a) : Sem Flow) (SP X pins D) X.xe s4) X.xe { s' with heap := h3 } := by
          rw [hf]
          refine HandSPX.setFlight_upZ fl3 fun h4 hh4 up4 => wpAny_throw (tk _ _ ?_)
          exact ⟨a, B, sI, pins, σ', H', cls, d, rfl, J, nb, (up.trans up3).trans up4, .inr (.inr (by rw [hs]; exact hh4)), na, os, ag, w⟩
        first
          | exact wpAny_bind (wpAny_pure (wpAny_bind fin))
          | exact wpAny_bind fin
      | @pl x c ts b₀ suite np pos' hds2 l2 hc hsu r ih =>
        intro w
        obtain ⟨b, hb1, hyes, hno⟩ := w
        refine wpAny_handleBy_cons (codeAny_handlers_test ?_) (by intro q; cases q)
        have LM := PySem.W.exm_one (M := model X.prog X.w) (J3.kIn) LT hb1
        refine test hc (LM.here ?_)
        cases b with
        | true =>
          refine codeAny_handlers_suite ?_
          refine HandSPX.lands_againZ fl3 fun h4 fl4 up4 => ?_
          have J4 : Inv X pins σ' H' { s' with heap := h4 } := J.landed nb fl4.1 ((up.trans up3).trans up4) os ag
          obtain ⟨oe4, vs4, he4, hz4, hd4⟩ := fl4.there
          have S4 := J4.suite he4 hd4 na nL nF
          refine wpAny_mono ((hsu a oe4 cls d (X.pn ++ pins) hz4 ⟨_, hd4⟩).run [] _ _ H' _ S4 (hyes rfl a na)) (fun f s6 hsp => ?_) (fun _ _ z => False.elim z)
          cases f with
          | next =>
            obtain ⟨σ6, H6, S6, q6⟩ := hsp
            exact ⟨_, _, S6.unsuite ok, q6⟩
          | brk =>
            obtain ⟨σ6, H6, S6, q6⟩ := hsp
            exact ⟨_, _, S6.unsuite ok, q6⟩
          | cont =>
            obtain ⟨σ6, H6, S6, q6⟩ := hsp
            exact ⟨_, _, S6.unsuite ok, q6⟩
          | ret u =>
            obtain ⟨v6, σ6, H6, S6, r6, q6⟩ := hsp
            exact ⟨_, _, _, S6.unsuite ok, r6, q6⟩
        | false =>
          show wpAny _ X.A (handleBy (.ref a) X.env hds2) _ _ _
          exact ih (hno rfl)
      | @as x n c i ts b₀ suite np pos' hds2 l2 hc hi hln hsu r ih =>
        intro w
        obtain ⟨b, hb1, hyes, hno⟩ := w
        refine wpAny_handleBy_cons (codeAny_handlers_test ?_) (by intro q; cases q)
        have LM := PySem.W.exm_one (M := model X.prog X.w) (J3.kIn) LT hb1
        refine test hc (LM.here ?_)
        cases b with
        | true =>
          refine codeAny_handlers_suite_as ?_
          refine HandSPX.lands_againZ fl3 fun h4 fl4 up4 => ?_
          have J4 : Inv X pins σ' H' { s' with heap := h4 } := J.landed nb fl4.1 ((up.trans up3).trans up4) os ag
          obtain ⟨oe4, vs4, he4, hz4, hd4⟩ := fl4.there
          have S4 := J4.suite he4 hd4 na nL nF
          have hloc : L2.Loc X.env.scope n := .inl hln
          refine store_ok (X := X.suite a ((a, oe4) :: (X.pn ++ pins))) (v := .ref a) S4 hN hi hloc rfl (fun s5 S5 => ?_) (.inr hln)
          refine wpAny_mono ((hsu a oe4 cls d (X.pn ++ pins) hz4 ⟨_, hd4⟩).run [] s5 _ H' _ S5 (hyes rfl a na)) (fun f s6 hsp => ?_) (fun _ _ z => False.elim z)
          have end_ : ∀ {σ6 : L2.St} {H6 : Hp} {Q : Shared → Prop}, Inv (X.suite a ((a, oe4) :: (X.pn ++ pins))) [] σ6 H6 s6 → (∀ s7, Inv X pins (σ6.set i none) H6 s7 → Q s7) →
              wpAny (model X.prog X.w) X.A (do bindName X.env n .none; unbindBehindTheSuite X.env n pos') (fun _ s7 => Q s7) X.xe s6 := fun {σ6 H6 Q} S6 hq => gone_ok (S6.unsuite ok) hN hi hln hq
          cases f with
          | next =>
            obtain ⟨σ6, H6, S6, q6⟩ := hsp
            exact end_ S6 fun s7 J7 => ⟨_, _, J7, q6⟩
          | brk =>
            obtain ⟨σ6, H6, S6, q6⟩ := hsp
            exact end_ S6 fun s7 J7 => ⟨_, _, J7, q6⟩
          | cont =>
            obtain ⟨σ6, H6, S6, q6⟩ := hsp
            exact end_ S6 fun s7 J7 => ⟨_, _, J7, q6⟩
          | ret u =>
            obtain ⟨v6, σ6, H6, S6, r6, q6⟩ := hsp
            exact end_ S6 fun s7 J7 => ⟨_, _, _, J7, r6, q6⟩
        | false =>
          show wpAny _ X.A (handleBy (.ref a) X.env hds2) _ _ _
          exact ih (hno rfl)
    exact go hh w
  · cases f with
    | next =>
      obtain ⟨σ', H', J', q⟩ := hsp
      exact wpAny_execs_nil ⟨σ', H', J'.ofTry ok, q⟩
    | brk =>
      obtain ⟨σ', H', J', q⟩ := hsp
      exact ⟨σ', H', J'.ofTry ok, q⟩
    | cont =>
      obtain ⟨σ', H', J', q⟩ := hsp
      exact ⟨σ', H', J'.ofTry ok, q⟩
    | ret u =>
      obtain ⟨v, σ', H', J', r, q⟩ := hsp
      exact ⟨v, σ', H', J'.ofTry ok, r, q⟩
end
end Md
/-! ### isinstance of an error that has its dict -/
namespace Md
open PySem PySem.Spec PyProof.Rows L2 PySem.Calls
section
variable {prog : Program} {w : World} {A : Around} {E : Value → Shared → Prop} {s : Shared} {K : PySem.W.Frag} {x C0 : Addr} {ox : Obj} {od : Option Obj}
theorem findObj_any {name : Str} {a g : Value} (hc : (PySem.W.clsIn K C0).isSome = true) (ha : PySem.W.findIn K (.ref C0) name = some (some a)) (hg : PySem.W.specialIn K a "__get__" = some (some g)) (ht : PySem.W.takesIn K a = some true) : PySem.W.findObj K C0 od name = some (.bind g a) := by
  obtain ⟨cd, hc⟩ := Option.isSome_iff_exists.mp hc
  unfold PySem.W.findObj
  simp [hc, ha, hg, ht]
theorem cls_isSome (h : PySem.W.hasDictIn K C0 = true) : (PySem.W.clsIn K C0).isSome = true := by
  unfold PySem.W.hasDictIn at h
  cases z : PySem.W.clsIn K C0 with
  | none => rw [z] at h; simp at h
  | some _ => rfl
theorem class_ofE {Q : Option Value → Shared → Prop} (T : ExcC K C0) (X : K.In s.heap) (I : PySem.W.InstAt s.heap x ox C0 od) (h : Q (some (.ref C0)) { s with toks := s.toks + 1 }) : wpAny (model prog w) A (getAttr? (.ref x) "__class__") Q E s := by
  have hf := findObj_any (od := od) (cls_isSome T.hd) T.ha T.hn T.ht
  obtain ⟨hp, g, d, t, os⟩ := s
  have L0 := I.type (M := model prog w)
  have sub : PySem.W.Looks (model prog w) hp (isInstance (.ref x) (.type "BaseException")) true := L0.andThen (PySem.W.looks_subIn X T.hs)
  have e1 : (Value.builtin "BaseException.__getattribute__" == Value.builtin "object.__getattribute__") = false := by decide +kernel
  unfold getAttr? getAttrBy? getAttrBy
  refine wpAny_bind (wpAny_mkText (wpAny_bind (wpAny_attempt (wpAny_holding (wpAny_bind (L0.at (wpAny_bind ((PySem.W.looks_findIn X T.hg).at ?_))))))))
  show wpAny _ _ (if (onTheHeap (Value.ref C0) && Value.builtin "BaseException.__getattribute__" == Value.builtin "object.__getattribute__") = true then _ else _) _ _ _
  rw [e1, Bool.and_false, if_neg Bool.false_ne_true]
  unfold getAttrByItsOwn hookBefore
  refine wpAny_bind ?_
  rw [if_pos (show onTheHeap (Value.ref C0) = true from rfl)]
  refine (PySem.W.looks_findIn X T.hk).at (wpAny_bind (wpAny_attempt (wpAny_holding ?_)))
  unfold callGetattribute
  rw [show (false && onTheHeap (Value.builtin "BaseException.__getattribute__")) = false from rfl, if_neg Bool.false_ne_true]
  unfold boundAndCalled
  rw [PySem.F.excAttr_ValueError.ga.bind (.ref x)]
  refine wpAny_bind (wpAny_pure ?_)
  show wpAny _ _ (call (.builtin "BaseException.__getattribute__") [.ref x, .str "__class__" t]) _ _ _
  refine wpAny_call (codeAny_call_builtin PySem.F.excAttr_ValueError.ga.plain PySem.F.entry_bexc_ga ?_)
  refine @PySem.W.check_slot (model prog w) _ _ ⟨hp, g, d, t + 1, os⟩ "BaseException.__getattribute__" "BaseException" "__getattribute__" (.ref x) [.str "__class__" t] [] _ (by decide +kernel) (by decide +kernel) sub (PySem.F.args_bexc_ga (.ref x) (.str "__class__" t)) ?_
  unfold Builtin.«object.__getattribute__»
  refine wpAny_bind (wpAny_of_eq (a := ((Value.ref x : Value), [Value.str "__class__" t])) (by first | rfl | (simp only [slotArgs]; rfl)) ?_)
  refine wpAny_bind (wpAny_pure (wpAny_bind (L0.at (wpAny_bind ((PySem.W.looks_find (M := model prog w) X I hf).at ?_)))))
  show wpAny _ _ (holding [Value.builtin "object.__class__"] (call (.builtin "getset_descriptor.__get__") [.builtin "object.__class__", .ref x, .ref C0]) >>= ret) _ _ _
  refine wpAny_bind (wpAny_holding (wpAny_call (PySem.W.class_get (s := ⟨hp, g, d, t + 1, os⟩) (ox := ox) (od := od) X I T.hm ?_)))
  refine wpAny_pure ?_
  show wpAny _ _ (handedOut (.ref C0)) _ _ _
  rw [PySem.W.handedOut_of (v := .ref C0) rfl]
  first
    | exact wpAny_pure (wpAny_pure h)
    | exact wpAny_pure h
    | exact wpAny_pure (wpAny_bind (wpAny_pure (wpAny_pure h)))
theorem kitx_ofE (T : ExcC K C0) : PySem.W.KitX K (.ref x) (.ref C0) (fun h => PySem.W.InstAt h x ox C0 od) where
  ty := fun _ _ _ I => I.type
  it := fun _ _ X _ => by
    have hcD := cls_isSome T.hd
    unfold PySem.W.clsIn at hcD
    split at hcD
    · rename_i c' d' cd' sl' ho
      intro A' Q' E' s' k q
      unfold isType loadHead
      exact wpAny_bind (wpAny_loadPart (k _ _ (X _ _ ho)) (wpAny_pure q))
    · cases hcD
  ne := fun h tp dd its n sl X htp => by
    have hcD := cls_isSome T.hd
    refine Bool.eq_false_iff.mpr fun q => ?_
    have e : C0 = tp := Value.ref.inj (beq_iff_eq.mp q)
    subst e
    unfold PySem.W.clsIn at hcD
    split at hcD
    · rename_i c' d' cd' sl' ho
      have z := (X _ _ ho).symm.trans htp
      cases z
    · cases hcD
  ca := fun X I k => class_ofE T X I k
end
/-- the fields of an error, as they stand -/
def XF (K : PySem.W.Frag) (ρ : List Addr) (H : Hp) (dx : Option Addr) (fs : List (Str × D)) : Prop := (fs = [] ∧ dx = none) ∨ (fs ≠ [] ∧ ∃ d vs, dx = some d ∧ d ∉ ρ ∧ H d = some (.xd vs) ∧ IsFs K ρ H fs vs)
theorem XF.ext {K : PySem.W.Frag} {ρ ρ' : List Addr} {H H' : Hp} {dx : Option Addr} {fs : List (Str × D)} (e : Ext ρ H ρ' H') (h : XF K ρ H dx fs) : XF K ρ' H' dx fs :=
  h.imp (fun z => z) fun ⟨ne, d, vs, h1, h2, h3, h4⟩ => ⟨ne, d, vs, h1, (e.keep _ _ h2 h3).1, (e.keep _ _ h2 h3).2, h4.ext e⟩
theorem IsX.xf {K : PySem.W.Frag} {ρ : List Addr} {H : Hp} {S : Sto} {x : Exn} {cls : Value} {dx : Option Addr} (hd : Held K ρ H S) (h : IsX K ρ H x cls dx) : XF K ρ H dx x.fs := by
  refine h.2.imp (fun z => z) fun ⟨ne, d, vs, h1, h2, h3⟩ => ⟨ne, d, vs, h1, fun m => ?_, h2, h3⟩
  obtain ⟨l, hl, rfl⟩ := List.getElem_of_mem m
  have hl' : l < S.length := by rw [← hd.len]; exact hl
  have c := hd.cell l S[l] ρ[l] (by simp [hl']) (by simp [hl])
  cases hq : S[l] with
  | lst ds =>
    rw [hq] at c
    obtain ⟨vs', h4, _⟩ := c
    rw [h2] at h4
    cases h4
  | dct ds =>
    rw [hq] at c
    obtain ⟨vs', h4, _⟩ := c
    rw [h2] at h4
    cases h4
  | ins C ds =>
    rw [hq] at c
    obtain ⟨_, _, vs', _, h4, _⟩ := c
    rw [h2] at h4
    cases h4
  | dcn ds =>
    rw [hq] at c
    obtain ⟨vs', h4, _⟩ := c
    rw [h2] at h4
    cases h4
  | lkd ds =>
    rw [hq] at c
    obtain ⟨_, vs', h4, _⟩ := c
    rw [h2] at h4
    cases h4
/-! ### what an except suite computes of the error that it holds -/
abbrev MX := List (Str × D) → Option D
abbrev MXA := List (Str × D) → Option (List D)
def tXR {α β : Type} (R : PySem.W.Frag → List Addr → Hp → α → β → Prop) (K : PySem.W.Frag) (dx : Option Addr) (i : Option Nat) (a : Addr) (fs : List (Str × D)) (m : Option α) : L2.St → Hp → (β → Hp → Prop) → Prop := fun σ H Q =>
  ∃ ρ S, (∀ j, i = some j → σ[j]? = some (some (.ref a))) ∧ Held K ρ H S ∧ XF K ρ H dx fs ∧ ∃ d, m = some d ∧ ∀ ρ' H' v, Held K ρ' H' S → Ext ρ H ρ' H' → R K ρ' H' d v → Q v H'
abbrev tX : PySem.W.Frag → Option Addr → Option Nat → Addr → List (Str × D) → Option D → TE := tXR Is
abbrev tXA : PySem.W.Frag → Option Addr → Option Nat → Addr → List (Str × D) → Option (List D) → TA := tXR IsL
section
variable {Y : Cx} {i : Option Nat} {j : Nat} {a : Addr} {dx : Option Addr} {fs : List (Str × D)} {e c : Expr} {es : List Expr} {pos p p1 p2 : Pos} {m : Option D} {ms : Option (List D)} {X : Cx} {oe : Obj} {pn : List (Addr × Obj)} {C0 D0 : Addr} {n x f : Str}
theorem sx_c {d : D} (h : PE Y e (tC (cV d))) (hc : constB d = true) : PE Y e (tX Y.K dx i a fs (some d)) :=
  ⟨fun pins s σ H Q I ⟨ρ, S, _, hd, _, d', hm, q⟩ => h.run pins s σ H Q I (by cases hm; exact q ρ H _ hd Ext.refl (constB_is hc))⟩
theorem sxa_nil : PA Y [] (tXA Y.K dx i a fs (some [])) :=
  ⟨fun pos pins s σ H Q I ⟨ρ, S, _, hd, _, d', hm, q⟩ => pa_nil.run pos pins s σ H Q I (by cases hm; exact q ρ H _ hd Ext.refl IsL.nil)⟩
theorem sxa_cons (ha : PE Y e (tX Y.K dx i a fs m)) (hr : PA Y es (tXA Y.K dx i a fs ms)) (hs : starEach (e :: es) Y.env = (false, eval e Y.env) :: starEach es Y.env := by rfl) : PA Y (e :: es) (tXA Y.K dx i a fs (m.bind fun d => ms.map (d :: ·))) :=
  ⟨fun pos pins s σ H Q I ⟨ρ, S, hi, hd, hx, d', hm, q⟩ => (pa_cons ha hr hs).run pos pins s σ H Q I (by
    obtain ⟨d, rfl, hm⟩ := Option.bind_eq_some_iff.mp hm
    obtain ⟨ds, rfl, rfl⟩ := Option.map_eq_some_iff.mp hm
    exact ⟨ρ, S, hi, hd, hx, d, rfl, fun ρ1 H1 v hd1 e1 r1 => ⟨ρ1, S, hi, hd1, hx.ext e1, ds, rfl, fun ρ2 H2 vs hd2 e2 r2 => q ρ2 H2 _ hd2 (e1.trans e2) (IsL.cons (r1.ext e2) r2)⟩⟩)⟩
theorem sx_lst (h : PA Y es (tXA Y.K dx i a fs ms)) (hl : ∀ ds, ms = some ds → small ds.length = true) : PE Y (.List es pos) (tX Y.K dx i a fs (ms.map .lst)) :=
  ⟨fun pins s σ H Q I ⟨ρ, S, hi, hd, hx, d', hm, q⟩ => (pe_lst h).run pins s σ H Q I (by
    obtain ⟨ds, rfl, rfl⟩ := Option.map_eq_some_iff.mp hm
    refine ⟨ρ, S, hi, hd, hx, ds, rfl, fun ρ1 H1 vs hd1 e1 r1 => ⟨by rw [r1.length]; exact small_line (hl ds rfl), fun p np => ?_⟩⟩
    obtain ⟨h3, e3, r3⟩ := hd1.newL np r1
    exact q ρ1 _ _ h3 (e1.trans e3) r3)⟩
theorem sx_fld (T : XfC X.K C0) (hno : PySem.W.findIn X.K (.ref C0) f = some none) (hz : Zc (.ref C0) dx oe) (hf : ∃ vs, oe.data = .fields vs) (hv : PE (X.suite a ((a, oe) :: pn)) e (tVar j)) (hb : attributeBase e f X.env (eval e X.env) = eval e X.env := by rfl) :
    PE (X.suite a ((a, oe) :: pn)) (.Attribute e f pos) (tX X.K dx (some j) a fs (fs.lookup f)) :=
  ⟨fun pins s σ H Q I ⟨ρ, S, hi, hd, hx, d', hm, q⟩ => (pe_xf T hno hz hf hv hb).run pins s σ H Q I (by
    rcases hx with ⟨rfl, _⟩ | ⟨ne, dd, vs, h1, h2, h3, h4⟩
    · cases hm
    · obtain ⟨v, h5, h6⟩ := h4.lookup hm
      exact ⟨.ref a, hi j rfl, rfl, rfl, dd, vs, v, h1, h3, h5, q ρ H v hd Ext.refl h6⟩)⟩
theorem call_isX (T : ExcC X.K C0) (hz : Zc (.ref C0) dx oe) (hf : ∃ vs, oe.data = .fields vs) : CallR (X.suite a ((a, oe) :: pn)) (.builtin "isinstance") (fun xs H Q => (dx = none ∨ ∃ d vs, dx = some d ∧ H d = some (.xd vs)) ∧ rIsE X.K C0 a xs H Q) := by
  intro pins s σ H xs us Q I r ⟨hx, h⟩
  rcases hx with rfl | ⟨d, vs, rfl, hxd⟩
  · exact call_isE T hz hf pins s σ H xs us Q I r h
  · obtain ⟨c, cv, b, rfl, hcv, e, q⟩ := h
    obtain ⟨u1, u2, rfl, rx, rt⟩ := vals2 r
    cases rx
    have ec := hcv _ rt
    subst ec
    obtain ⟨hget, _⟩ := I.pin (a, oe) (List.mem_append.mpr (.inl List.mem_cons_self))
    obtain ⟨vv, hv⟩ := hf
    have hxo : ObjOk X.prog X.w H s.heap d (.xd vs) := I.hok d _ hxd
    obtain ⟨mA, hns, hr⟩ := hxo
    obtain ⟨od, ho, hl⟩ := lookIn_ns hns
    have J : PySem.W.InstAt s.heap a oe C0 (some od) := ⟨hget, hz.1, by unfold PySem.W.notCls; rw [hv] <;> rfl, by rw [hz.2]; exact ho⟩
    exact PySem.W.kia_one (kitx_ofE T) I.kIn J e (fun z => nomatch z) fun tk => ⟨.bl b, H, I.kept (t' := tk) fun _ _ z => z, rfl, q⟩
/-- isinstance(error, y) -/
theorem sx_isi {b : Bool} {cv : Value} (T : ExcC X.K C0) (hz : Zc (.ref C0) dx oe) (hf : ∃ vs, oe.data = .fields vs) (hb : PySem.W.kitOne X.K (.ref C0) cv = some b) (hg : Gl (X.suite a ((a, oe) :: pn)) "isinstance") (hm : X.mg "isinstance" = none)
    (hv : PE (X.suite a ((a, oe) :: pn)) (.Name n p1) (tVar j)) {v : V} (hc : PE (X.suite a ((a, oe) :: pn)) (.Name x p2) (tC v)) (hcv : ∀ u, RelV v u → u = cv)
    (n1 : starEach [.Name n p1, .Name x p2] X.env = (false, eval (.Name n p1) X.env) :: starEach [.Name x p2] X.env := by rfl) (n2 : starEach [.Name x p2] X.env = (false, eval (.Name x p2) X.env) :: starEach [] X.env := by rfl) (n3 : (backTo pos (starEach [.Name x p2] X.env)).any (·.1) = false := by rfl) :
    PE (X.suite a ((a, oe) :: pn)) (.Call (.Name "isinstance" p) [.Name n p1, .Name x p2] [] pos) (tX X.K dx (some j) a fs (some (.bl b))) :=
  ⟨fun pins s σ H Q I ⟨ρ, S, hi, hd, hx, d', hm', q⟩ => (pe_callB (X := X.suite a ((a, oe) :: pn)) (call_isX T hz hf) hg hm boot_isinstance (pa_cons hv (pa_cons hc pa_nil n2) n1) (he := n1) (hpl := n3)).run pins s σ H Q I (by
    cases hm'
    refine ⟨.ref a, hi j rfl, ?_, v, cv, b, rfl, hcv, hb, q ρ H _ hd Ext.refl (by rw [Is])⟩
    rcases hx with ⟨_, rfl⟩ | ⟨_, d, vs, h1, _, h3, _⟩
    · exact .inl rfl
    · exact .inr ⟨d, vs, h1, h3⟩)⟩
theorem sx_if {b : Bool} {e1 e2 : Expr} {m1 m2 : Option D} (hc : PE Y c (tX Y.K dx i a fs (some (.bl b)))) (ha : PE Y e1 (tX Y.K dx i a fs m1)) (hb : PE Y e2 (tX Y.K dx i a fs m2)) (he : ∀ whole, isTrue c Y.env whole = (do let v ← whole; standAt c.pos; holding [v] (truthy v)) := by intro _; rfl) :
    PE Y (.IfExp c e1 e2 pos) (tX Y.K dx i a fs (if b then m1 else m2)) :=
  ⟨fun pins s σ H Q I ⟨ρ, S, hi, hd, hx, d', hm, q⟩ => (pe_ifExp (pt_val hc he) ha hb).run pins s σ H Q I (by
    refine ⟨ρ, S, hi, hd, hx, .bl b, rfl, fun ρ1 H1 v hd1 e1 r1 => ?_⟩
    rw [Is] at r1
    refine ⟨b, r1, ?_⟩
    cases b with
    | true => exact iteT ⟨ρ1, S, hi, hd1, hx.ext e1, d', hm, fun ρ2 H2 v hd2 e2 r2 => q ρ2 H2 v hd2 (e1.trans e2) r2⟩
    | false => exact iteF ⟨ρ1, S, hi, hd1, hx.ext e1, d', hm, fun ρ2 H2 v hd2 e2 r2 => q ρ2 H2 v hd2 (e1.trans e2) r2⟩)⟩
end
end Md

set_option Elab.async false
set_option linter.all false
set_option maxRecDepth 100000
set_option maxHeartbeats 4000000
/-! Md30: raise X(e), X with a field; try with clauses, by outcomes. -/
namespace Md
open PySem PySem.Spec PyProof.Rows L2
/-- a class of errors, whatever makes it -/
structure ExB (K : PySem.W.Frag) (mg : Str → Option Value) (x : Str) (C : Addr) : Prop where
  g : mg x = some (.ref C)
  n : PySem.W.nsIn K mainGlobals x = some (some (.ref C))
  b : PySem.W.subIn K (.ref C) (.type "BaseException") = some true
  t : PySem.W.typeIn K (.ref C) = some (.type "type")
  e : ExcC K C
theorem ExK.toB {K : PySem.W.Frag} {mg : Str → Option Value} {x : Str} {C : Addr} (h : ExK K mg x C) : ExB K mg x C := ⟨h.g, h.n, h.b, h.t, h.e⟩
theorem ExB.one {K : PySem.W.Frag} {mg : Str → Option Value} {x : Str} {C C' : Addr} (a : ExB K mg x C) (h : PySem.W.nsIn K mainGlobals x = some (some (.ref C'))) : C = C' := by
  have := a.n
  rw [h] at this
  cases this; rfl
theorem ExB.xf {K : PySem.W.Frag} {mg : Str → Option Value} {x : Str} {C : Addr} (h : ExB K mg x C) : XfC K C := ⟨h.e.hg, h.e.hk, h.b, h.e.hd⟩
/-! ### raise X(e) -/
def spEx (K : PySem.W.Frag) (C : Addr) (f : Str) : Sp := fun vs H Q _ => ∃ a v, vs = [.ref a, v] ∧ H a = some (exo a C none) ∧ ∀ dx, H dx = none → dx ≠ a → Q .non (upd (upd H dx (exd dx [(f, v)])) a (exo a C (some dx)))
/-- a class with __init__(self, f) -/
structure ExF (P : Program) (w : World) (K : PySem.W.Frag) (mg : Str → Option Value) (base : Heap) (x f : Str) : Prop where
  ex : ∃ (C fI : Addr) (fd : FuncData), ExB K mg x C ∧ OexC K C ∧ PySem.W.findIn K (.ref C) "__init__" = some (some (.ref fI)) ∧ PySem.W.typeIn K (.ref fI) = some (.type "function") ∧
    FnOk P w K mg base CX0 1 fI fd ["self", f] (spEx K C f) ∧ Binds K fd ["self", f] []
section
variable {X : Cx} {W : WX} {x f y : Str} {e : Expr} {es : List Expr} {me : ED} {p p1 p2 p' pos pos' : Pos} {ta : TA} {CW : Addr}
theorem pe_weinit (hg : Gl X x) (hm : X.mg x = some (.ref CW)) (hga : PySem.W.specialIn X.K (.ref CW) "__getattribute__" = some (some (.builtin "type.__getattribute__"))) (hr : PySem.W.readsIn X.K CW (.type "type") = true)
    (hv : PySem.W.findCls X.K (.ref CW) (.type "type") "__init__" = some (.val (.builtin "ValueError.__init__"))) (ha : PA X (e :: es) ta) {pl : Sem Bool} (hdb : (x == ("__debug__" : Str)) = false := by decide)
    (hc : eval (.Call (.Attribute (.Name x p1) "__init__" p2) (e :: es) [] pos) X.env = (do
      let ov ← eval (.Name x p1) X.env
      standAt p2.atName
      let (f, first) ← holding [ov] (getMethod ov "__init__" pl)
      callWith pos f first (backTo pos (starEach (e :: es) X.env)) (backToKw pos (keywordEach [] X.env))) := by rfl)
    (he : starEach (e :: es) X.env = (false, eval e X.env) :: starEach es X.env := by rfl) (hpl : (backTo pos (starEach es X.env)).any (·.1) = false := by rfl) :
    PE X (.Call (.Attribute (.Name x p1) "__init__" p2) (e :: es) [] pos) (tVeI X.K ta) := by
  refine ⟨fun pins s σ H Q I h => ?_⟩
  refine PySem.W.methodCall_KW (ld_glob I hg hm ?_ hdb) hc
  refine PySem.W.method_cls I.kIn hga (PySem.W.cls_value I.kIn hr hv (by decide +kernel) ?_)
  show wpAny _ _ (callWith pos (Value.builtin "ValueError.__init__") [] (backTo pos (starEach (e :: es) X.env)) []) _ _ _
  refine PyProof.Rows.callWith_method1 (thn (ha.run pos pins _ σ H _ (I.tok _) h) fun us s1 ⟨vs, H1, I1, r1, a, C, ws, ev, hl, T, ea, q⟩ => ?_) he hpl
  subst ev
  obtain ⟨u0, ur, rfl, ra, rw'⟩ : ∃ u0 ur, us = u0 :: ur ∧ RelV (.ref a) u0 ∧ Vals ws ur := by cases r1 with | cons ra rw' => exact ⟨_, _, rfl, ra, rw'⟩
  cases ra
  have hlen : ur.length ≤ sizeLine := by
    rw [← Paired.length rw', sizeLine_eq]
    omega
  exact oinit_ok T I1 ea hlen fun s' J => ⟨.non, H1, J, rfl, q⟩
/-- what such an __init__ leaves -/
theorem einit_reads {C : Addr} {H : Hp} {Q : VK} {E : XK} {vs : List V} {N : List Str} (T : OexC X.K C) (hno : PySem.W.findIn X.K (.ref C) f = some none) (h : spEx X.K C f vs H Q E) {to te : TE} {ta : TA} {c : V}
    (hta : ∀ σ H Q, (∃ a v, σ = [some (.ref a), some v] ∧ Q [.ref a, c] H) → ta σ H Q) (hto : ∀ σ H Q, (∃ a v, σ = [some (.ref a), some v] ∧ Q (.ref a) H) → to σ H Q) (hte : ∀ σ H Q, (∃ a v, σ = [some (.ref a), some v] ∧ Q v H) → te σ H Q) :
    ∀ D : Ends, D.nx = (fun _ H' => Q .non H') → ∀ v0 v1, vs = [v0, v1] → tVeI X.K ta [some v0, some v1] H (fun _ H1 => tOst X.K f to te D [some v0, some v1] H1) := by
  intro D hD v0 v1 e
  obtain ⟨a, v, hvs, h1, h2⟩ := h
  obtain ⟨rfl, rfl⟩ : v0 = .ref a ∧ v1 = v := by rw [hvs] at e; cases e; exact ⟨rfl, rfl⟩
  refine hta _ _ _ ⟨a, v1, rfl, a, C, [c], rfl, (by show 1 ≤ 1000; decide), T, h1, ?_⟩
  refine hte _ _ _ ⟨a, v1, rfl, hto _ _ _ ⟨a, v1, rfl, a, C, rfl, T, hno, .inl ⟨h1, fun dx n ne => ?_⟩⟩⟩
  rw [hD]
  exact h2 dx n ne
def sRaiseF (x f : Str) (me : ED) : SD := fun loc S => (me loc S).thn loc fun d S1 => .ex ⟨x, [(f, d)]⟩ loc S1
theorem pms_raiseF {j : Nat} (T : ExF X.prog X.w X.K X.mg X.base x f) (hr : Ard j X.A) (hk : 2 ≤ j) (tk : Takes X W) (hg : Gl X x) (hx : Passes CX0 X (fun _ _ _ => False)) (he : PE X e (tE X.K W me)) (hc : X.calm = true := by rfl) (hdb : (x == ("__debug__" : Str)) = false := by decide)
    (n1 : starEach [e] X.env = (false, eval e X.env) :: starEach [] X.env := by rfl) (n2 : (backTo pos (starEach [] X.env)).any (·.1) = false := by rfl) :
    PS X (.Raise (some (.Call (.Name x p) [e] [] pos)) none pos') (tS X.K W (sRaiseF x f me)) := by
  obtain ⟨C, fI, fd, T1, T2, iC, tI, F1, hb⟩ := T.ex
  refine (ps_raise hc tk (pmk_oex T2 iC tI F1 (hr.room.mono hk) hb .nil hx hg T1.g (pma_cons he pma_nil n1) hdb n1 n2)).md fun En σ H ⟨ρ, loc, S, rl, hd, g⟩ => ?_
  refine ⟨ρ, loc, S, rl, hd, ?_⟩
  have g : GoodS X.K W En ρ H ((me loc S).thn loc fun d S1 => .ex ⟨x, [(f, d)]⟩ loc S1) := g
  show Good X.K W σ (IsL X.K) _ ρ H (((me loc S).bind fun d S1 => (mNil loc S1).bind fun ds S2 => .ok (d :: ds) S2))
  cases ho : me loc S with
  | ok d S1 =>
    rw [ho] at g
    intro ρ1 H1 vs hd1 e1 r1
    obtain ⟨v, rfl, r2⟩ := r1.one
    refine ⟨by show 1 ≤ 1000; decide, fun a na => ⟨a, v, rfl, upd_same, fun dx ndx ne => ⟨rfl, dx, [(f, v)], upd_same, by rw [upd_ne ne]; exact upd_same, ?_, ?_⟩⟩⟩
    · rw [upd_ne ne] at ndx; exact ndx
    · have ndx1 : H1 dx = none := by rw [upd_ne ne] at ndx; exact ndx
      have eh : upd (L2.del (upd (upd (upd H1 a (exo a C none)) dx (exd dx [(f, v)])) a (exo a C (some dx))) a) dx (.xd [(f, v)]) = upd H1 dx (.xd [(f, v)]) := by
        funext b
        by_cases hb : b = dx
        · subst hb; rw [upd_same, upd_same]
        · rw [upd_ne hb, upd_ne hb]
          by_cases hba : b = a
          · subst hba; rw [L2.del_same]; exact na.symm
          · rw [L2.del_ne hba, upd_ne hba, upd_ne hb, upd_ne hba]
      rw [eh]
      obtain ⟨h3, e3⟩ := hd1.fresh (o := .xd [(f, v)]) ndx1
      exact g ρ1 _ σ _ _ h3 (e1.trans e3) ((rl.ext e1).ext e3) ⟨⟨C, T1.n, rfl⟩, .inr ⟨by simp, dx, [(f, v)], rfl, upd_same, v, [], rfl, r2.ext e3, rfl⟩⟩
  | ex z S1 =>
    rw [ho] at g
    exact fun ρ1 H1 cls dx hd1 e1 ix => g ρ1 H1 σ cls dx hd1 e1 (rl.ext e1) ix
  | no => rw [ho] at g; exact g.elim
end
/-! ### try with clauses -/
structure Hd where
  x : Str
  oi : Option Nat
  sel : Str → Bool
  rt : Bool
  j : Nat
  hv : Str → List (Str × D) → Option D
def unsetI (oi : Option Nat) (l : Loc) : Loc := match oi with
  | some i => l.set i none
  | none => l
def slotB (oi : Option Nat) (l : Loc) : Bool := match oi with
  | some i => decide (i < l.length)
  | none => true
def pickH : List Hd → Exn → Loc → Sto → OutS
  | [], e, l, S => .ex e l S
  | h :: r, e, l, S => if h.sel e.cls then needS (h.hv e.cls e.fs) fun d => guardS (slotB h.oi l) (if h.rt then .rt d S else .nx (unsetI h.oi (l.set h.j (some d))) S) else pickH r e l S
def sTryM (nms : List Str) (hs : List Hd) (mb : SD) : SD := fun loc S => match mb loc S with
  | .ex e l S1 => guardS (decide (e.cls ∈ nms)) (pickH hs e l S1)
  | o => o
/-- the clauses' suites compute what is said -/
def SuiteOk (X : Cx) (nms : List Str) (h : Hd) (e : Expr) : Prop := ∀ nm ∈ nms, h.sel nm = true → ∀ (C a : Addr) (oe : Obj) (dx : Option Addr) (pn : List (Addr × Obj)) (fs : List (Str × D)), ExB X.K X.mg nm C → Zc (.ref C) dx oe → (∃ vs, oe.data = .fields vs) →
  PE (X.suite a ((a, oe) :: pn)) e (tX X.K dx h.oi a fs (h.hv nm fs))
def SelOk (X : Cx) (nms : List Str) (h : Hd) (c : Value) : Prop := ∀ nm ∈ nms, ∀ C, ExB X.K X.mg nm C → PySem.W.exmOne X.K (.ref C) c = some (h.sel nm)
inductive HdsM (X : Cx) (nms : List Str) : List ExceptHandler → List Hd → Prop
  | nil : HdsM X nms [] []
  | asS {h : Hd} {i : Nat} {n y : Str} {c : Value} {e : Expr} {np pos' p1 p2 : Pos} {hds : List ExceptHandler} {hs : List Hd} (ho : h.oi = some i) (hrt : h.rt = false) (hc : Names X h.x c) (hi : X.N[i]? = some n) (hln : X.env.kindOf n = some .local) (hj : X.N[h.j]? = some y) (hx : L2.Loc X.env.scope y) (hf : X.fn y = true ∨ X.env.scope.names.lookup y = some .local)
      (hsw : swapsWith e (some (.Name y p1)) p2.line X.env = pure false) (hsel : SelOk X nms h c) (hsu : SuiteOk X nms h e) (r : HdsM X nms hds hs) : HdsM X nms (.ExceptHandler (some (.Name h.x np)) (some n) [.Assign [.Name y p1] e p2] pos' :: hds) (h :: hs)
  | plS {h : Hd} {y : Str} {c : Value} {e : Expr} {np pos' p1 p2 : Pos} {hds : List ExceptHandler} {hs : List Hd} (ho : h.oi = none) (hrt : h.rt = false) (hc : Names X h.x c) (hj : X.N[h.j]? = some y) (hx : L2.Loc X.env.scope y) (hf : X.fn y = true ∨ X.env.scope.names.lookup y = some .local)
      (hsw : swapsWith e (some (.Name y p1)) p2.line X.env = pure false) (hsel : SelOk X nms h c) (hsu : SuiteOk X nms h e) (r : HdsM X nms hds hs) : HdsM X nms (.ExceptHandler (some (.Name h.x np)) none [.Assign [.Name y p1] e p2] pos' :: hds) (h :: hs)
  | plR {h : Hd} {c : Value} {e : Expr} {np pos' p2 : Pos} {hds : List ExceptHandler} {hs : List Hd} (ho : h.oi = none) (hrt : h.rt = true) (hc : Names X h.x c) (hsel : SelOk X nms h c) (hsu : SuiteOk X nms h e) (r : HdsM X nms hds hs) : HdsM X nms (.ExceptHandler (some (.Name h.x np)) none [.Return (some e) p2] pos' :: hds) (h :: hs)
section
variable {X : Cx} {W : WX} {nms : List Str}
def tsH (X : Cx) (nms : List Str) (h : Hd) : Addr → Value → Option Addr → TS := fun a cls dx En σ H => ∃ nm, nm ∈ nms ∧ ∃ (C : Addr) (fs : List (Str × D)) (ρ : List Addr) (S : Sto), cls = .ref C ∧ ExB X.K X.mg nm C ∧ h.sel nm = true ∧ (∀ j, h.oi = some j → σ[j]? = some (some (.ref a))) ∧ Held X.K ρ H S ∧ XF X.K ρ H dx fs ∧
  ∃ d, h.hv nm fs = some d ∧ ∀ ρ' H' v, Held X.K ρ' H' S → Ext ρ H ρ' H' → Is X.K ρ' H' d v → if h.rt then En.rt v H' else En.nx (σ.set h.j (some v)) H'
/-- the clauses in the kit's form -/
inductive HdsL (X : Cx) (nms : List Str) : List Hd → HdL → Prop
  | nil : HdsL X nms [] []
  | cons {h : Hd} {c : Value} {hs : List Hd} {l : HdL} (hsel : SelOk X nms h c) (hrt : h.rt = true → h.oi = none) (r : HdsL X nms hs l) : HdsL X nms (h :: hs) ((c, h.oi, tsH X nms h) :: l)
theorem hds_lay (hN : X.N.Nodup) : ∀ {hds : List ExceptHandler} {hs : List Hd}, HdsM X nms hds hs → ∃ l, HdsA X hds l ∧ HdsL X nms hs l := by
  intro hds hs hm
  induction hm with
  | nil => exact ⟨[], .nil, .nil⟩
  | @asS h i n y c e np pos' p1 p2 hds hs ho hrt hc hi hln hj hx hf hsw hsel hsu r ih =>
    obtain ⟨l, h1, h2⟩ := ih
    refine ⟨(c, h.oi, tsH X nms h) :: l, ?_, .cons hsel (fun z => by rw [hrt] at z; cases z) h2⟩
    rw [ho]
    refine .as hc hi hln (fun a oe cls dx pn hz hfl => ⟨fun pins s σ H D I ⟨nm, hnm, C, fs, ρ, S, ec, T, hs', hsl, hd, hxf, d, hv, q⟩ => ?_⟩) h1
    subst ec
    refine (pss_one (ps_set (X := X.suite a ((a, oe) :: pn)) (i := h.j) hN hj hx (hsu nm hnm hs' C a oe dx pn fs T hz hfl) hsw hf)).run pins s σ H D I ?_
    refine ⟨ρ, S, hsl, hd, hxf, d, hv, fun ρ' H' v a1 a2 a3 => ?_⟩
    have := q ρ' H' v a1 a2 a3
    rw [hrt] at this
    exact this
  | @plS h y c e np pos' p1 p2 hds hs ho hrt hc hj hx hf hsw hsel hsu r ih =>
    obtain ⟨l, h1, h2⟩ := ih
    refine ⟨(c, h.oi, tsH X nms h) :: l, ?_, .cons hsel (fun z => by rw [hrt] at z; cases z) h2⟩
    rw [ho]
    refine .pl hc (fun a oe cls dx pn hz hfl => ⟨fun pins s σ H D I ⟨nm, hnm, C, fs, ρ, S, ec, T, hs', hsl, hd, hxf, d, hv, q⟩ => ?_⟩) h1
    subst ec
    refine (pss_one (ps_set (X := X.suite a ((a, oe) :: pn)) (i := h.j) hN hj hx (hsu nm hnm hs' C a oe dx pn fs T hz hfl) hsw hf)).run pins s σ H D I ?_
    refine ⟨ρ, S, hsl, hd, hxf, d, hv, fun ρ' H' v a1 a2 a3 => ?_⟩
    have := q ρ' H' v a1 a2 a3
    rw [hrt] at this
    exact this
  | @plR h c e np pos' p2 hds hs ho hrt hc hsel hsu r ih =>
    obtain ⟨l, h1, h2⟩ := ih
    refine ⟨(c, h.oi, tsH X nms h) :: l, ?_, .cons hsel (fun _ => ho) h2⟩
    rw [ho]
    refine .pl hc (fun a oe cls dx pn hz hfl => ⟨fun pins s σ H D I ⟨nm, hnm, C, fs, ρ, S, ec, T, hs', hsl, hd, hxf, d, hv, q⟩ => ?_⟩) h1
    subst ec
    refine (pss_one (ps_ret (X := X.suite a ((a, oe) :: pn)) (hsu nm hnm hs' C a oe dx pn fs T hz hfl))).run pins s σ H D I ?_
    refine ⟨ρ, S, hsl, hd, hxf, d, hv, fun ρ' H' v a1 a2 a3 => ?_⟩
    have := q ρ' H' v a1 a2 a3
    rw [hrt] at this
    exact this
theorem RelL.unsetI' {K : PySem.W.Frag} {ρ : List Addr} {σ : L2.St} {H : Hp} {l : Md.Loc} {oi : Option Nat} {j : Nat} {a : Addr} {d : D} {v : V} (r : RelL K ρ σ H l) (hv : Is K ρ H d v) : RelL K ρ (match oi with | some i => ((bindI oi a σ).set j (some v)).set i none | none => (bindI oi a σ).set j (some v)) H (unsetI oi (l.set j (some d))) := by
  cases oi with
  | none => exact r.set j hv
  | some i =>
    have r1 : RelL K ρ ((σ.set i (some (.ref a))).set j (some v)) H ((l.set i (some (.adr a))).set j (some d)) := (r.set i (d := .adr a) (by rw [Is])).set j hv
    exact r1.unset
theorem pickL {En : Ends} : ∀ {hs : List Hd} {l : HdL}, HdsL X nms hs l → ∀ {ρ ρ0 : List Addr} {H H0 : Hp} {σ : L2.St} {loc : Md.Loc} {S : Sto} {e : Exn} {cls : Value} {dx : Option Addr} {C : Addr}, e.cls ∈ nms → cls = .ref C → ExB X.K X.mg e.cls C → RelL X.K ρ σ H loc → Held X.K ρ H S → IsX X.K ρ H e cls dx →
    GoodS X.K W En ρ H (pickH hs e loc S) → wManyA X.K W En l cls dx σ H := by
  intro hs l hl
  induction hl with
  | nil => intro ρ ρ0 H H0 σ loc S e cls dx C hm ec T rl hd ix g; exact g ρ H σ cls dx hd Ext.refl rl ix
  | @cons h c hs l hsel hrt r ih =>
    intro ρ ρ0 H H0 σ loc S e cls dx C hm ec T rl hd ix g
    refine ⟨h.sel e.cls, by rw [ec]; exact hsel _ hm C T, fun hy a na => ?_, fun hn => ?_⟩
    · have g : GoodS X.K W En ρ H (if h.sel e.cls then needS (h.hv e.cls e.fs) fun d => guardS (slotB h.oi loc) (if h.rt then .rt d S else .nx (unsetI h.oi (loc.set h.j (some d))) S) else pickH hs e loc S) := g
      rw [if_pos hy] at g
      obtain ⟨d, hv, g1⟩ := g.need
      obtain ⟨hsl, g2⟩ := g1.guard
      refine ⟨e.cls, hm, C, e.fs, ρ, S, ec, T, hy, fun j hj => ?_, hd, ix.xf hd, d, hv, fun ρ' H' v hd' e' r' => ?_⟩
      · rw [hj] at hsl ⊢
        have : j < σ.length := by rw [rl.len]; exact of_decide_eq_true hsl
        exact List.getElem?_set_self this
      · cases hq : h.rt with
        | true =>
          rw [hq] at g2
          have ho := hrt hq
          rw [ho]
          exact g2 ρ' H' v hd' e' r'
        | false =>
          rw [hq] at g2
          have g3 := fun (σ' : L2.St) (z : RelL X.K ρ' σ' H' (unsetI h.oi (loc.set h.j (some d)))) => g2 ρ' H' σ' hd' e' z
          have rr := RelL.unsetI' (oi := h.oi) (j := h.j) (a := a) (rl.ext e') r'
          cases hoi : h.oi with
          | none =>
            rw [hoi] at g3 rr
            exact g3 _ rr
          | some i =>
            rw [hoi] at g3 rr
            exact g3 _ rr
    · have g : GoodS X.K W En ρ H (if h.sel e.cls then needS (h.hv e.cls e.fs) fun d => guardS (slotB h.oi loc) (if h.rt then .rt d S else .nx (unsetI h.oi (loc.set h.j (some d))) S) else pickH hs e loc S) := g
      rw [if_neg (by rw [hn]; exact Bool.false_ne_true)] at g
      exact ih (ρ0 := ρ0) (H0 := H0) hm ec T rl hd ix g
theorem pms_tryM {hs : List Hd} {mb : SD} {body : List Stmt} {h₀ : ExceptHandler} {hds : List ExceptHandler} {pos : Pos} (hst : X.stack = X.env :: X.outer) (hf : X.env.frame = some X.env.locals) (hN : X.N.Nodup) (tk : Takes X W)
    (hb : ∀ (W : WX) (pn : List (Addr × Obj)) (xe : Value → Shared → Prop), Takes (X.tr pn xe) W → PassesOwn (model X.prog X.w) X.A X.env xe → PSs (X.tr pn xe) body (tS X.K W mb))
    (hT : ∀ nm ∈ nms, ∃ C, ExB X.K X.mg nm C) (hh : HdsM X nms (h₀ :: hds) hs) : PS X (.Try body (h₀ :: hds) [] [] pos) (tS X.K W (sTryM nms hs mb)) := by
  obtain ⟨l, h1, h2⟩ := hds_lay hN hh
  have base := ps_try_manyA (X := X) (l := l) (pos := pos) (tb := fun W => tS X.K W mb) (Wout := W) hst hf hN tk hb h1
  refine base.md fun En σ H ⟨ρ, loc, S, rl, hd, g⟩ => ⟨ρ, loc, S, rl, hd, ?_⟩
  have g : GoodS X.K W En ρ H (match mb loc S with | .ex e l S1 => guardS (decide (e.cls ∈ nms)) (pickH hs e l S1) | o => o) := g
  cases ho : mb loc S with
  | nx l S1 => rw [ho] at g; exact g
  | bk l S1 => rw [ho] at g; exact g
  | ct l S1 => rw [ho] at g; exact g
  | rt d S1 => rw [ho] at g; exact g
  | no => rw [ho] at g; exact g
  | ex e l1 S1 =>
    rw [ho] at g
    obtain ⟨hm, g1⟩ := g.guard
    have hm := of_decide_eq_true hm
    intro ρ1 H1 σ1 cls dx hd1 e1 rl1 ix
    obtain ⟨C, T⟩ := hT _ hm
    obtain ⟨⟨C', hC', ec⟩, _⟩ := ix
    obtain rfl := T.one hC'
    exact pickL (ρ0 := ρ) (H0 := H) h2 hm ec T rl1 hd1 ⟨⟨C, hC', ec⟩, by assumption⟩ (g1.ext e1)
end
end Md

set_option Elab.async false
set_option linter.all false
set_option maxRecDepth 100000
set_option maxHeartbeats 4000000
/-! Md31: classes of errors as they stand behind the top. -/
namespace Md
open PySem PySem.Spec PyProof.Rows L2
/-- what the own __init__ of such a class asks of its base class -/
structure WIn (K : PySem.W.Frag) (mg : Str → Option Value) (x : Str) : Prop where
  ex : ∃ CW, mg x = some (.ref CW) ∧ PySem.W.specialIn K (.ref CW) "__getattribute__" = some (some (.builtin "type.__getattribute__")) ∧ PySem.W.readsIn K CW (.type "type") = true ∧ PySem.W.findCls K (.ref CW) (.type "type") "__init__" = some (.val (.builtin "ValueError.__init__"))
theorem oex_mk {K : PySem.W.Frag} {mg : Str → Option Value} {x : Str} {C : Addr} {nm q : Str} {N : Addr} {bs : List Value} {sn : List Str} {sub : List Value} {ab : Bool} {col : Option Bool} {dd : Option Addr} {k0 k1 k2 k3 k5 : Option Value} {bm : List Value} (B : ExB K mg x C)
    (l : K.lookup C = some (excClassObj nm q C N bs bm true sn sub ab col dd k0 k1 k2 k3 k5 "ValueError.__new__")) (hbm : PySem.HandSPX.refsVE bm = true) (sa : PySem.W.findIn K (.ref C) "__setattr__" = some (some (.builtin "object.__setattr__"))) (kp : PySem.W.keepIn K (.ref C) = true) : OexC K C :=
  ⟨⟨nm, q, N, bs, bm, sn, sub, ab, col, dd, k0, k1, k2, k3, k5, l, hbm⟩, sa, B.b, B.t, kp⟩
theorem exF_mk {P : Program} {w : World} {K : PySem.W.Frag} {mg : Str → Option Value} {base : Heap} {x f y msg qual : Str} {C fI : Addr} {fd : FuncData} {st : Stmt} (B : ExB K mg x C) (T : OexC K C) (hW : WIn K mg y) (iC : PySem.W.findIn K (.ref C) "__init__" = some (some (.ref fI))) (tI : PySem.W.typeIn K (.ref fI) = some (.type "function"))
    (hno : PySem.W.findIn K (.ref C) f = some none) (F : Fun K "__init__" qual st fI fd) (S : FnScope ["self", f] ["self", f] (defScope st)) (hb : Binds K fd ["self", f] [])
    (ho : ∀ (cdv : Value) (A : Around) (outer : List Env) (s : Shared) (H : Hp) (vs : List V) (Q : VK) (E : XK),
      PSs (cxOf CX0 P w K mg base ["self", f] qual (defScope st) fI cdv A outer s H E).nox (defBody st) (tSeq (tDrop (tVeI K (tCons (tVar 0) (tCons (tC (.str msg)) tNil)))) (tOst K f (tVar 0) (tVar 1)))) : ExF P w K mg base x f := by
  refine ⟨⟨C, fI, fd, B, T, iC, tI, ?_, hb⟩⟩
  refine F.ok S (fun vs H Q E h => ?_) fun cdv A outer s H vs Q E hr hsp => ⟨_, ho cdv A outer s H vs Q E, ?_⟩
  · obtain ⟨a, v, rfl, _⟩ := h
    rfl
  · obtain ⟨a, v, rfl, h1, h2⟩ := hsp
    refine ⟨.ref a, rfl, a, C, [.str msg], rfl, (by show 1 ≤ 1000; decide), T, h1, ?_⟩
    exact ⟨v, rfl, .ref a, rfl, a, C, rfl, T, hno, .inl ⟨h1, fun dx n ne => h2 dx n ne⟩⟩
theorem pss_init {X : Cx} {f x msg : Str} {p1 p2 p3 p4 p5 p6 p7 p8 p9 : Pos} {p11 : Pos} {j : Nat} (hN : X.N = [("self" : Str), f]) (hW : WIn X.K X.mg x) (hg : Gl X x) (hv0 : Vis X.env.scope "self") (hv1 : Vis X.env.scope f) (hdb : (x == ("__debug__" : Str)) = false := by decide) (hf : (f == ("__debug__" : Str)) = false := by decide) (hf2 : (f == ("__classdict__" : Str)) = false := by decide) {pl : Sem Bool}
    (hc : eval (.Call (.Attribute (.Name x p1) "__init__" p2) [.Name "self" p3, .Constant (.str msg) j p4] [] p5) X.env = (do
      let ov ← eval (.Name x p1) X.env
      standAt p2.atName
      let (f, first) ← holding [ov] (getMethod ov "__init__" pl)
      callWith p5 f first (backTo p5 (starEach [.Name "self" p3, .Constant (.str msg) j p4] X.env)) (backToKw p5 (keywordEach [] X.env))) := by rfl)
    (h1 : starEach [.Name "self" p3, .Constant (.str msg) j p4] X.env = (false, eval (.Name "self" p3) X.env) :: starEach [.Constant (.str msg) j p4] X.env := by rfl) (h2 : starEach [.Constant (.str msg) j p4] X.env = (false, eval (.Constant (.str msg) j p4) X.env) :: starEach [] X.env := by rfl) (hpl : (backTo p5 (starEach [.Constant (.str msg) j p4] X.env)).any (·.1) = false := by rfl)
    (hs1 : swapsWith (.Call (.Attribute (.Name x p1) "__init__" p2) [.Name "self" p3, .Constant (.str msg) j p4] [] p5) none p6.line X.env = pure false := by rfl)
    (hs2 : swapsWith (.Name f p7) (some (.Attribute (.Name "self" p8) f p9)) p11.line X.env = pure false := by rfl) :
    PSs X [.Expr (.Call (.Attribute (.Name x p1) "__init__" p2) [.Name "self" p3, .Constant (.str msg) j p4] [] p5) p6, .Assign [.Attribute (.Name "self" p8) f p9] (.Name f p7) p11] (tSeq (tDrop (tVeI X.K (tCons (tVar 0) (tCons (tC (.str msg)) tNil)))) (tOst X.K f (tVar 0) (tVar 1))) := by
  obtain ⟨CW, a1, a2, a3, a4⟩ := hW.ex
  exact pss_cons (ps_expr (pe_weinit hg a1 a2 a3 a4 (pa_cons (pe_var (by rw [hN]; rfl) hv0) (pa_cons pe_str pa_nil h2) h1) hdb hc h1 hpl) hs1) (pss_one (ps_ost (pe_var (by rw [hN]; rfl) hv0) (pe_var (by rw [hN]; rfl) hv1 hf hf2) hs2))
def LenIs (n : Nat) (ms : Option (List D)) : Prop := ∀ ds, ms = some ds → ds.length = n
theorem lenIs_nil : LenIs 0 (some []) := fun ds h => by cases h; rfl
theorem lenIs_cons {n : Nat} {m : Option D} {ms : Option (List D)} (h : LenIs n ms) : LenIs (n + 1) (m.bind fun d => ms.map (d :: ·)) := fun ds e => by
  obtain ⟨d, rfl, e⟩ := Option.bind_eq_some_iff.mp e
  obtain ⟨xs, rfl, rfl⟩ := Option.map_eq_some_iff.mp e
  simp [h xs rfl]
theorem lenOk {n : Nat} {ms : Option (List D)} (h : LenIs n ms) (hn : small n = true) : ∀ ds, ms = some ds → small ds.length = true := fun ds e => by rw [h ds e]; exact hn
end Md

set_option Elab.async false
set_option linter.all false
set_option maxRecDepth 100000
set_option maxHeartbeats 4000000
/-! Md32: dict displays of any values. -/
namespace Md
open PySem PySem.Spec PyProof.Rows L2
def emptyAt (S : Sto) (l : Nat) : Bool := match S[l]? with
  | some (.dct []) => true
  | _ => false
def mDispG (ms : List (ED × ED)) : ED := fun loc S => (mPairs ms loc (S ++ [.dct []])).bind fun ps S1 => guardO (emptyAt S1 S.length && (ps.all (fun p => (keyD p.1).isSome) && decide (ps.length ≤ 15))) (.ok (.ref S.length) (S1.set S.length (.dct (ps.foldl (fun acc kv => putD acc kv.1 kv.2) []))))
theorem IsKV.len {K : PySem.W.Frag} {ρ : List Addr} {H : Hp} : ∀ {kvs : List (D × D)} {ks : List (Key × V)}, IsKV K ρ H kvs ks → ks.length = kvs.length
  | [], _, h => by cases h; rfl
  | (k, d) :: r, _, h => by
    obtain ⟨q, v, t, rfl, _, _, h3⟩ := h
    simp [IsKV.len h3]
theorem pm_dispG {X : Cx} {W : WX} {pos : Pos} {keys : List (Option Expr)} {values : List Expr} {ms : List (ED × ED)} (h : PPs X pos keys values (ms.map fun m => (tE X.K W m.1, tE X.K W m.2))) (hall : keys.all (·.isSome) = true) (hl : keys.length = values.length) (h0 : keys ≠ []) (h15 : keys.length ≤ 15) :
    PE X (.Dict keys values pos) (tE X.K W (mDispG ms)) :=
  (pe_disp h hall hl h0 h15).md fun σ H Q ⟨ρ, loc, S, rl, hd, g⟩ p np => by
    obtain ⟨hd1, e1, r1⟩ := hd.push (c := .dct []) (o := .dK []) np ⟨[], upd_same, rfl⟩
    refine pairs_md ms ⟨ρ ++ [p], loc, S ++ [.dct []], rl.ext e1, hd1, Good.bind (Good.ext g e1) fun ps S1 ρ1 H1 vs hd2 e2 r2 g2 => ?_⟩
    obtain ⟨hg, g3⟩ := Good.guard g2
    rw [Bool.and_eq_true, Bool.and_eq_true] at hg
    obtain ⟨h1, h2, h3⟩ := hg
    have hlen : ps.length ≤ 15 := of_decide_eq_true h3
    have hp : ρ1[S.length]? = some p := by
      have := r1.ext e2
      rw [Is] at this
      obtain ⟨a, ha, hq⟩ := this
      cases hq
      exact ha
    have hS : S1[S.length]? = some (.dct []) := by
      unfold emptyAt at h1
      split at h1
      · assumption
      · cases h1
    obtain ⟨ks0, hk0, hk1⟩ := hd2.cell _ _ _ hS hp
    have hk1 : ks0 = [] := hk1
    subst hk1
    obtain ⟨ks, ek, ik⟩ := r2.keys h2
    refine ⟨hk0, ks, ek, by rw [ik.len]; exact hlen, ?_⟩
    have ew : Ext ρ1 H1 ρ1 (upd H1 p (.dK (mergeK [] ks))) := Held.ext_write (List.mem_of_getElem? hp)
    obtain ⟨h5, e5⟩ := hd2.write (c := .dct (ps.foldl (fun acc kv => putD acc kv.1 kv.2) [])) hp ⟨mergeK [] ks, upd_same, (IsKV.merge ps [] ks [] ik rfl).ext ew⟩
    exact g3 _ _ _ h5 e5 ((r1.ext e2).ext e5)
@[simp] theorem r_dispG {ms : List (ED × ED)} {loc : Md.Loc} {S : Sto} : mDispG ms loc S = (mPairs ms loc (S ++ [.dct []])).bind fun ps S1 => guardO (emptyAt S1 S.length && (ps.all (fun p => (keyD p.1).isSome) && decide (ps.length ≤ 15))) (.ok (.ref S.length) (S1.set S.length (.dct (ps.foldl (fun acc kv => putD acc kv.1 kv.2) [])))) := rfl
@[simp] theorem r_pairs0 {loc : Md.Loc} {S : Sto} : mPairs [] loc S = .ok [] S := rfl
@[simp] theorem r_pairs {mk mv : ED} {r : List (ED × ED)} {loc : Md.Loc} {S : Sto} : mPairs ((mk, mv) :: r) loc S = (mk loc S).bind fun k S1 => (mv loc S1).bind fun v S2 => (mPairs r loc S2).bind fun ps S3 => .ok ((k, v) :: ps) S3 := rfl
theorem exmB_of {K : PySem.W.Frag} {mg : Str → Option Value} {x y : Str} {C D : Addr} {b : Bool} (a : ExB K mg x C) (e : ExB K mg y D) (h : PySem.W.subIn K (.ref C) (.ref D) = some b) : PySem.W.exmOne K (.ref C) (.ref D) = some b :=
  PySem.W.exm_ref e.b e.e.hd e.t h
theorem kitB_of {K : PySem.W.Frag} {mg : Str → Option Value} {x y : Str} {C D : Addr} {b : Bool} (a : ExB K mg x C) (e : ExB K mg y D) (hs : PySem.W.subIn K (.ref C) (.ref C) = some true) (h : PySem.W.subIn K (.ref C) (.ref D) = some b) : PySem.W.kitOne K (.ref C) (.ref D) = some b := by
  by_cases q : C = D
  · subst q
    rw [hs] at h
    cases h
    unfold PySem.W.kitOne
    simp
  · have hc : (PySem.W.clsIn K D).isSome = true := by
      have := e.e.hd
      unfold PySem.W.hasDictIn at this
      cases z : PySem.W.clsIn K D with
      | none => rw [z] at this; simp at this
      | some _ => rfl
    unfold PySem.W.kitOne PySem.W.kitCls
    rw [if_neg (by simp [q])]
    simp only [hc, e.t, beq_self_eq_true, Bool.and_self, if_true]
    exact h
end Md

set_option Elab.async false
set_option linter.all false
set_option maxRecDepth 100000
set_option maxHeartbeats 4000000
/-! Md33: sorted(d), d a dict with ints for keys. -/
namespace Md
open PySem PySem.Spec PyProof.Rows L2
def keysI : List (D × D) → Option (List Int)
  | [] => some []
  | (.int i, _) :: r => (keysI r).map (i :: ·)
  | _ => none
def sortI (ns : List Int) : List Int := ns.mergeSort fun a b => decide (a ≤ b)
theorem sortI_perm (ns : List Int) : (sortI ns).Perm ns := List.mergeSort_perm _ _
theorem sortI_le (ns : List Int) : (sortI ns).Pairwise (· ≤ ·) := by
  have := List.pairwise_mergeSort (le := fun a b : Int => decide (a ≤ b)) (fun a b c h1 h2 => by simp at h1 h2 ⊢; omega) (fun a b => by simp; omega) ns
  exact this.imp fun h => by simpa using h
theorem sortI_uniq {ys ns : List Int} (h : ys.Perm ns) (k : ys.Pairwise (· ≤ ·)) : ys = sortI ns :=
  List.Perm.eq_of_pairwise (le := (· ≤ ·)) (fun a b _ _ h1 h2 => Int.le_antisymm h1 h2) k (sortI_le ns) (h.trans (sortI_perm ns).symm)
def fSortG : List D → Sto → Out D
  | [.ref l], S => match S[l]? with
    | some (.dct kvs) => need (keysI kvs) fun ns => guardO (decide (ns.length < 64)) (.ok (.lst ((sortI ns).map .int)) S)
    | _ => fSorted [.ref l] S
  | ds, S => fSorted ds S
theorem IsKV.keysI {K : PySem.W.Frag} {ρ : List Addr} {H : Hp} : ∀ {kvs : List (D × D)} {ks : List (Key × V)} {ns : List Int}, IsKV K ρ H kvs ks → keysI kvs = some ns → ks.map (·.1) = ns.map Sum.inl
  | [], _, _, h, e => by
    cases h
    cases e
    rfl
  | (.int i, d) :: r, _, _, h, e => by
    obtain ⟨q, v, t, rfl, h1, h2, h3⟩ := h
    cases h1
    obtain ⟨ns, h4, rfl⟩ := Option.map_eq_some_iff.mp e
    rw [List.map_cons, List.map_cons, IsKV.keysI h3 h4]
section
variable {X : Cx}
theorem ints_isL {K : PySem.W.Frag} {ρ : List Addr} {H : Hp} : ∀ ns : List Int, IsL K ρ H (ns.map D.int) (ns.map V.int)
  | [] => IsL.nil
  | n :: ns => IsL.cons (by rw [Is]) (ints_isL ns)
theorem cm_sortG (hc : X.calm = true) (hu : X.A.units + 64 < cLine) : CallR X (.builtin "sorted") (rCM X.K fSortG) := fun pins s σ H xs us Q I r ⟨W, σ', ρ, S, ds, hd, r0, g0⟩ => by
  unfold fSortG at g0
  split at g0
  · rename_i l
    split at g0
    · rename_i kvs hS
      obtain ⟨ns, h2, g2⟩ := g0.need
      obtain ⟨hk, g⟩ := g2.guard
      obtain ⟨x, rfl, r1⟩ := r0.one
      obtain ⟨a, rfl, ha, ks, h3, h4⟩ := hd.at_ r1 hS
      refine call_sortedDI hc pins s σ H _ us Q I r ⟨a, ks, ns, rfl, Rd.of h3, h4.keysI h2, of_decide_eq_true hk, fun ys p pm so np => ?_⟩
      obtain rfl := sortI_uniq pm so
      obtain ⟨h6, e6, r6⟩ := hd.newL np (ints_isL (sortI ns))
      exact g _ _ _ h6 e6 r6
    · exact cm_sorted hu pins s σ H xs us Q I r ⟨W, σ', ρ, S, _, hd, r0, g0⟩
  · exact cm_sorted hu pins s σ H xs us Q I r ⟨W, σ', ρ, S, _, hd, r0, g0⟩
@[simp] theorem r_sortG {S : Sto} {l : Nat} : fSortG [.ref l] S = (match S[l]? with
    | some (.dct kvs) => need (keysI kvs) fun ns => guardO (decide (ns.length < 64)) (.ok (.lst ((sortI ns).map .int)) S)
    | _ => fSorted [.ref l] S) := rfl
end
/-! ### xs[::-1] of a list or of a tuple -/
def mRevG (ma : ED) : ED := fun loc S => (ma loc S).bind fun d S1 => match tupOf d with
  | some ds => .ok (.tup ds.reverse) S1
  | none => need (lstOf S1 d) fun ds => .ok (.lst ds.reverse) S1
section
variable {X : Cx} {W : WX} {a : Expr} {ma : ED} {pos : Pos}
theorem pe_or {e : Expr} {t1 t2 : TE} (h1 : PE X e t1) (h2 : PE X e t2) : PE X e (fun σ H Q => t1 σ H Q ∨ t2 σ H Q) :=
  ⟨fun pins s σ H Q I h => h.elim (h1.run pins s σ H Q I) (h2.run pins s σ H Q I)⟩
theorem pm_revG {k : Nat} {p1 p2 p3 : Pos} (ha : PE X a (tE X.K W ma)) : PE X (.Subscript a (.Slice none none (some (.UnaryOp .USub (.Constant (.int 1) k p1) p2)) p3) pos) (tE X.K W (mRevG ma)) :=
  (pe_or (pe_revT ha) (pe_revL ha)).md fun σ H Q ⟨ρ, loc, S, rl, hd, g⟩ => by
    have g : Good X.K W σ (Is X.K) Q ρ H ((ma loc S).bind fun d S1 => match tupOf d with
      | some ds => .ok (.tup ds.reverse) S1
      | none => need (lstOf S1 d) fun ds => .ok (.lst ds.reverse) S1) := g
    cases ho : ma loc S with
    | ok d S1 =>
      rw [ho] at g
      have g : Good X.K W σ (Is X.K) Q ρ H (match tupOf d with
        | some ds => .ok (.tup ds.reverse) S1
        | none => need (lstOf S1 d) fun ds => .ok (.lst ds.reverse) S1) := g
      cases ht : tupOf d with
      | some ds =>
        rw [ht] at g
        refine .inl ⟨ρ, loc, S, rl, hd, ?_⟩
        rw [ho]
        intro ρ1 H1 x hd1 e1 r1
        obtain rfl := tupOf_eq ht
        obtain ⟨b, vs, rfl, h3, h4⟩ := r1.seqT
        refine ⟨b, vs, rfl, h3, fun p ob np nd => ?_⟩
        obtain ⟨h5, e5, r5⟩ := hd1.newX np nd h4.reverse
        exact g ρ1 _ _ h5 (e1.trans e5) r5
      | none =>
        rw [ht] at g
        obtain ⟨ds, h1, g2⟩ := g.need
        refine .inr ⟨ρ, loc, S, rl, hd, ?_⟩
        rw [ho]
        intro ρ1 H1 x hd1 e1 r1
        obtain ⟨b, vs, rfl, h3, h4⟩ := hd1.lstOf r1 h1
        refine ⟨b, vs, rfl, .of h3, fun p np => ?_⟩
        obtain ⟨h5, e5, r5⟩ := hd1.newL np h4.reverse
        exact g2 ρ1 _ _ h5 (e1.trans e5) r5
    | ex z S1 =>
      rw [ho] at g
      refine .inl ⟨ρ, loc, S, rl, hd, ?_⟩
      rw [ho]
      exact g
    | no => rw [ho] at g; exact g.elim
@[simp] theorem r_revG {loc : Md.Loc} {S : Sto} : mRevG ma loc S = (ma loc S).bind fun d S1 => match tupOf d with
  | some ds => .ok (.tup ds.reverse) S1
  | none => need (lstOf S1 d) fun ds => .ok (.lst ds.reverse) S1 := rfl
@[simp] theorem tupOf_lst {ds : List D} : tupOf (.lst ds) = none := rfl
@[simp] theorem tupOf_tup {ds : List D} : tupOf (.tup ds) = some ds := rfl
end
end Md

set_option Elab.async false
set_option linter.all false
set_option maxRecDepth 100000
set_option maxHeartbeats 2000000
/-! Md34: calls with keywords. -/
namespace Md
open PySem PySem.Spec PyProof.Rows L2
def permL {α : Type} (idx : List Nat) (l : List α) : List α := idx.filterMap fun i => l[i]?
theorem permV {vs : List V} {us : List Value} (r : Vals vs us) : ∀ idx : List Nat, Vals (permL idx vs) (permL idx us)
  | [] => .nil
  | i :: idx => by
    unfold permL
    rw [List.filterMap_cons, List.filterMap_cons]
    cases h : vs[i]? with
    | none =>
      have e : us[i]? = none := List.getElem?_eq_none_iff.mpr (by rw [← r.length]; exact List.getElem?_eq_none_iff.mp h)
      rw [e]; exact permV r idx
    | some x =>
      obtain ⟨u, e, q⟩ := r.get h
      rw [e]; exact .cons q (permV r idx)
theorem permI {K : PySem.W.Frag} {ρ : List Addr} {H : Hp} {ds : List D} {vs : List V} (r : IsL K ρ H ds vs) : ∀ idx : List Nat, IsL K ρ H (permL idx ds) (permL idx vs)
  | [] => .nil
  | i :: idx => by
    unfold permL
    rw [List.filterMap_cons, List.filterMap_cons]
    cases h : ds[i]? with
    | none =>
      have e : vs[i]? = none := List.getElem?_eq_none_iff.mpr (by rw [r.length]; exact List.getElem?_eq_none_iff.mp h)
      rw [e]; exact permI r idx
    | some x =>
      obtain ⟨u, e, q⟩ := r.get h
      rw [e]; exact .cons q (permI r idx)
/-- a def of the module, called with keywords: nu values by place, ks by name, idx tells where each parameter's value stands -/
structure KwAt (K : PySem.W.Frag) (mg : Str → Option Value) (x : Str) (ps : List Str) (nu : Nat) (ks : List Str) (idx : List Nat) : Prop where
  ex : ∃ (f : Addr) (fd : FuncData), mg x = some (.ref f) ∧ (∃ oc od osl, K.lookup f = some ⟨oc, od, .func fd, osl⟩) ∧
    ∀ us ws : List Value, us.length = nu → ws.length = ks.length → bindArgs fd ⟨us, ks.zip ws⟩ = pure (ps.zip (permL idx (us ++ ws)))
theorem kwAt {K : PySem.W.Frag} {mg : Str → Option Value} {x : Str} {st : Stmt} {f : Addr} {fd : FuncData} {ps : List Str} {nu : Nat} {ks : List Str} {idx : List Nat} (F : Fun K x x st f fd) (hm : mg x = some (.ref f))
    (h : ∀ (kV doc pm : Value) (an : Option Addr) (cdv ct : Value) (us ws : List Value), us.length = nu → ws.length = ks.length → bindArgs (PySem.W.fnOf x x (defArgs st) (defBody st) (defScope st) .none kV doc pm an cdv ct) ⟨us, ks.zip ws⟩ = pure (ps.zip (permL idx (us ++ ws)))) : KwAt K mg x ps nu ks idx := by
  refine ⟨f, fd, hm, F.lk, ?_⟩
  obtain ⟨oc, od, kV, doc, pm, an, cdv, ct, osl, rfl, lk, hcd⟩ := F.ex
  exact h kV doc pm an cdv ct
/-- the values of keywords -/
theorem _root_.L2.PK.md {X : Cx} {W : WX} {ks : List Keyword} {t : TA} {m : AD} (h : PK X ks t) (k : ∀ σ H Q, tA X.K W m σ H Q → t σ H Q) : PK X ks (tA X.K W m) :=
  ⟨fun pos pins s σ H Q I g => h.run pos pins s σ H Q I (k σ H Q g)⟩
section
variable {X : Cx} {W : WX} {k j nu : Nat} {ps ks : List Str} {idx : List Nat} {m : List D → Sto → Out D} {x : Str} {p pos kpos : Pos} {e : Expr} {es : List Expr} {kws : List Keyword} {ml mk : AD} {ma : ED} {nm : Option Str}
theorem pmk_nil : PK X [] (tA X.K W mNil) := pk_nil.md fun σ H Q ⟨ρ, loc, S, rl, hd, g⟩ => Good.ret g hd IsL.nil
theorem pmk_cons (ha : PE X e (tE X.K W ma)) (hr : PK X kws (tA X.K W ml)) : PK X (⟨nm, e, kpos⟩ :: kws) (tA X.K W (mCons ma ml)) :=
  (pk_cons ha hr).md fun σ H Q ⟨ρ, loc, S, rl, hd, g⟩ => ⟨ρ, loc, S, rl, hd, Good.bind g fun d S1 ρ1 H1 x hd1 e1 r1 g1 =>
    ⟨ρ1, loc, S1, rl.ext e1, hd1, Good.bind g1 fun ds S2 ρ2 H2 xs hd2 e2 r2 g2 => Good.ret g2 hd2 (IsL.cons (r1.ext e2) r2)⟩⟩
def mFnK (m : List D → Sto → Out D) (nu nk : Nat) (idx : List Nat) (ml mk : AD) : ED := fun loc S => (ml loc S).bind fun ds S1 => (mk loc S1).bind fun zs S2 => if ds.length = nu ∧ zs.length = nk then m (permL idx (ds ++ zs)) S2 else .no
theorem runK {pins : List (Addr × Obj)} {σ : L2.St} {H : Hp} {s : Shared} {Q : VK} {us ws : List Value} {vs zs : List V} {f : Addr} {fd : FuncData} (F : FnG X.prog X.w X.K X.mg X.base k f fd ps m) (hr : Ard k X.A)
    (hb : bindArgs fd ⟨us, ks.zip ws⟩ = pure (ps.zip (permL idx (us ++ ws)))) (tk : Takes X W)
    (I : Inv X pins σ H s) (r : Vals vs us) (r2 : Vals zs ws) (h : spM X.K ps.length m (permL idx (vs ++ zs)) H Q (WE W σ)) : wpAny (model X.prog X.w) X.A (call (.ref f) us (ks.zip ws)) (EP X pins σ Q) X.xe s := by
  refine wpAny_call (codeAny_mono (F.run X.A X.stack s H ⟨us, ks.zip ws⟩ (permL idx (us ++ ws)) (permL idx (vs ++ zs)) Q (WE W σ) hr.room hr.grd I.env0 (.of_eq hb) (permV (r.append r2) idx) h) fun r s' hq => ?_)
  match r, hq with
  | .error e, hq => exact passAt tk σ pins H s e s' I hq
  | .ok (.ret u), hq => exact I.after hq
theorem kw_md {σ : L2.St} {H : Hp} {Q : VK} {K : PySem.W.Frag} {n nk : Nat} {R : List V → List V → Prop} (hlen : Len n m) (h : tE K W (mFnK m nu nk idx ml mk) σ H Q) :
    tA K W ml σ H fun vs H1 => tA K W mk σ H1 fun zs H2 => vs.length = nu ∧ zs.length = nk ∧ spM K n m (permL idx (vs ++ zs)) H2 Q (WE W σ) := by
  obtain ⟨ρ, loc, S, rl, hd, g⟩ := h
  refine ⟨ρ, loc, S, rl, hd, Good.bind g fun ds S1 ρ1 H1 vs hd1 e1 r1 g1 => ?_⟩
  refine ⟨ρ1, loc, S1, rl.ext e1, hd1, Good.bind g1 fun zs S2 ρ2 H2 ws hd2 e2 r2 g2 => ?_⟩
  have g2 : Good K W σ (Is K) Q ρ2 H2 (if ds.length = nu ∧ zs.length = nk then m (permL idx (ds ++ zs)) S2 else .no) := g2
  by_cases hl : ds.length = nu ∧ zs.length = nk
  · rw [if_pos hl, ← hlen] at g2
    refine ⟨by rw [r1.length]; exact hl.1, by rw [r2.length]; exact hl.2, ?_⟩
    have r3 := permI ((r1.ext e2).append r2) idx
    have g2 : Good K W σ (Is K) Q ρ2 H2 (if (permL idx (ds ++ zs)).length = n then m (permL idx (ds ++ zs)) S2 else .no) := g2
    by_cases hq : (permL idx (ds ++ zs)).length = n
    · rw [if_pos hq] at g2
      refine ⟨ρ2, permL idx (ds ++ zs), S2, hq, r3, hd2, ?_⟩
      cases ho : m (permL idx (ds ++ zs)) S2 with
      | ok a S2 => rw [ho] at g2; exact g2
      | ex a S2 => rw [ho] at g2; exact g2
      | no => rw [ho] at g2; exact g2
    · rw [if_neg hq] at g2; exact g2.elim
  · rw [if_neg hl] at g2; exact g2.elim
theorem pm_defK (F : DefAt X.prog X.w X.K X.mg X.base x k ps m) (B : KwAt X.K X.mg x ps nu ks idx) (hr : Ard j X.A) (hk : k ≤ j) (tk : Takes X W) (hg : Gl X x)
    (ha : PA X (e :: es) (tA X.K W ml)) (hkw : PK X kws (tA X.K W mk)) (hall : (backToKw pos (keywordEach kws X.env)).all (·.1.isSome) = true := by rfl) (hks : (backToKw pos (keywordEach kws X.env)).filterMap (·.1) = ks := by rfl)
    (hdb : (x == ("__debug__" : Str)) = false := by decide) (he : starEach (e :: es) X.env = (false, eval e X.env) :: starEach es X.env := by rfl)
    (hpl : ((backTo pos (starEach (e :: es) X.env)).any (·.1) || (backToKw pos (keywordEach kws X.env)).any (·.1.isNone)) = false := by rfl) :
    PE X (.Call (.Name x p) (e :: es) kws pos) (tE X.K W (mFnK m nu ks.length idx ml mk)) := by
  obtain ⟨f, fd, F1, h1, h2, h3, oc, od, osl, h4⟩ := F.ex
  obtain ⟨f', fd', h1', ⟨oc', od', osl', h4'⟩, hb⟩ := B.ex
  rw [h1] at h1'; cases h1'
  rw [h4] at h4'; cases h4'
  refine ⟨fun pins s σ H Q I h => ?_⟩
  have h := kw_md (R := fun _ _ => True) F.len h
  refine wpAny_Call_Name_kw (ld_glob I hg h1 ?_ hdb)
  refine PySem.W.callWith_KW (h₀ := X.base) I.ok.mod.kin h2 hall (thn (ha.run pos pins s σ H _ I h) fun us s1 ⟨vs, H1, I1, r, q⟩ => ?_) hpl he
  refine thn (hkw.run pos pins s1 σ H1 _ I1 q) fun ws s2 ⟨zs, H2, I2, rz, q1, q2, q3⟩ => ⟨I2.kIn, ?_⟩
  rw [hks]
  exact runK F1 (hr.mono hk) (hb us ws (by rw [← r.length]; exact q1) (by rw [← rz.length]; exact q2)) tk I2 r rz q3
theorem pm_defK0 (F : DefAt X.prog X.w X.K X.mg X.base x k ps m) (B : KwAt X.K X.mg x ps nu ks idx) (hr : Ard j X.A) (hk : k ≤ j) (tk : Takes X W) (hg : Gl X x)
    (hkw : PK X kws (tA X.K W mk)) (hall : (backToKw pos (keywordEach kws X.env)).all (·.1.isSome) = true := by rfl) (hks : (backToKw pos (keywordEach kws X.env)).filterMap (·.1) = ks := by rfl)
    (hdb : (x == ("__debug__" : Str)) = false := by decide)
    (hpl : ((backTo pos (starEach [] X.env)).any (·.1) || (backToKw pos (keywordEach kws X.env)).any (·.1.isNone)) = false := by rfl) :
    PE X (.Call (.Name x p) [] kws pos) (tE X.K W (mFnK m nu ks.length idx mNil mk)) := by
  obtain ⟨f, fd, F1, h1, h2, h3, oc, od, osl, h4⟩ := F.ex
  obtain ⟨f', fd', h1', ⟨oc', od', osl', h4'⟩, hb⟩ := B.ex
  rw [h1] at h1'; cases h1'
  rw [h4] at h4'; cases h4'
  refine ⟨fun pins s σ H Q I h => ?_⟩
  obtain ⟨ρ, loc, S, rl, hd, g⟩ := kw_md (R := fun _ _ => True) F.len h
  have h : tA X.K W mk σ H fun zs H2 => ([] : List V).length = nu ∧ zs.length = ks.length ∧ spM X.K ps.length m (permL idx ([] ++ zs)) H2 Q (WE W σ) := by
    exact Good.ret g hd IsL.nil
  refine wpAny_Call_Name_kw (ld_glob I hg h1 ?_ hdb)
  refine PySem.W.callWith_KW0 (h₀ := X.base) I.ok.mod.kin h2 hall ?_ hpl
  refine thn (hkw.run pos pins s σ H _ I h) fun ws s2 ⟨zs, H2, I2, rz, q1, q2, q3⟩ => ⟨I2.kIn, ?_⟩
  rw [hks]
  exact runK (us := []) (vs := []) F1 (hr.mono hk) (hb [] ws q1 (by rw [← rz.length]; exact q2)) tk I2 .nil rz q3
end
end Md

set_option Elab.async false
set_option linter.all false
set_option maxRecDepth 100000
set_option maxHeartbeats 2000000
/-! Md35: texts sign by sign; methods that call themselves. -/
namespace Md
open PySem PySem.Spec PyProof.Rows L2
def signsD (z : Str) : List D := z.cps.toList.map fun c => .str ⟨#[c]⟩
theorem signsD_get {z : Str} {i : Nat} {d : D} (h : (signsD z)[i]? = some d) : ∃ c, z.cps[i]? = some c ∧ d = .str ⟨#[c]⟩ := by
  unfold signsD at h
  rw [List.getElem?_map, Array.getElem?_toList] at h
  cases hz : z.cps[i]? with
  | none => rw [hz] at h; cases h
  | some c => rw [hz] at h; cases h; exact ⟨c, rfl, rfl⟩
theorem str_walk {K : PySem.W.Frag} {ρ1 : List Addr} {H1 : Hp} {z : Str} : WalkD K ρ1 H1 ⟨[], signsD z⟩ (Its z) := fun ρ H S Hx hd e c sub => by
  refine ⟨fun i d hi => ?_, by show z.cps.size ≤ (signsD z).length; simp [signsD]⟩
  obtain ⟨c, h1, rfl⟩ := signsD_get hi
  refine ⟨(Array.getElem?_eq_some_iff.mp h1).1, fun x H3 ⟨y1, c', y2, y3⟩ => .inl ⟨y1, ?_⟩⟩
  rw [h1] at y2
  cases y2
  rw [Is]; exact y3
section
variable {X : Cx} {W : WX} {e tg : Expr} {ma : ED}
def strOf : D → Option Str
  | .str z => some z
  | _ => none
def mSeqS (ma : ED) : WD := fun loc S => (ma loc S).bind fun d S1 => need (strOf d) fun z => .ok ⟨[], signsD z⟩ S1
theorem pmi_seqS (ha : PE X e (tE X.K W ma)) : PI X tg e (tI X.K W (mSeqS ma)) :=
  (pi_str ha).md fun σ H Q ⟨ρ, loc, S, rl, hd, g⟩ => ⟨ρ, loc, S, rl, hd, Good.bind g fun d S1 ρ1 H1 x hd1 e1 r1 g1 => by
    obtain ⟨z, hq, g2⟩ := g1.need
    cases d with
    | str y =>
      cases hq
      rw [Is] at r1
      exact ⟨_, r1, g2 ρ1 H1 _ hd1 Ext.refl str_walk⟩
    | _ => cases hq⟩
@[simp] theorem r_seqS {loc : Md.Loc} {S : Sto} : mSeqS ma loc S = (ma loc S).bind fun d S1 => need (strOf d) fun z => .ok ⟨[], signsD z⟩ S1 := rfl
@[simp] theorem q_strOf {z : Str} : strOf (.str z) = some z := rfl
end
section
variable {P : Program} {w : World} {K : PySem.W.Frag} {mg : Str → Option Value} {base : Heap} {k : Nat} {cls q qual : Str} {st : Stmt} {ps : List Str}
theorem metAt0 (F : MFun K cls q qual st ps) : MetAt P w K mg base cls q k ps mNone := by
  obtain ⟨C, f, fd, T, F, h1, h2⟩ := F.ex
  refine ⟨⟨C, f, fd, T, h1, ⟨fun A outer s H args us vs Q E _ _ _ _ _ ⟨_, _, _, _, _, _, g⟩ => g.elim⟩, h2⟩, ?_⟩
  funext ds S
  unfold mNone
  split <;> rfl
end
end Md

set_option Elab.async false
set_option linter.all false
set_option maxRecDepth 100000
set_option maxHeartbeats 2000000
/-! Md36: dicts whose keys are tuples, nested ones too. -/
namespace Md
open PySem PySem.Spec L2
mutual
theorem keyN_hash (w w' : World) : ∀ {d : D} {q : NestedKey}, keyN d = some q → q.hash w = q.hash w'
  | .non, q, h => by rw [keyN] at h; cases h; rfl
  | .bl b, q, h => by rw [keyN] at h; cases h; rfl
  | .int i, q, h => by rw [keyN] at h; cases h; rfl
  | .tup ds, q, h => by
    rw [keyN] at h
    obtain ⟨ks, h1, rfl⟩ := Option.map_eq_some_iff.mp h
    rw [NestedKey.hash, NestedKey.hash, keysN_hash w w' h1]
  | .str _, q, h => by simp [keyN] at h
  | .adr _, q, h => by simp [keyN] at h
  | .lst _, q, h => by simp [keyN] at h
  | .ref _, q, h => by simp [keyN] at h
  | .scr _, q, h => by simp [keyN] at h
  | .edc, q, h => by simp [keyN] at h
  | .fn _, q, h => by simp [keyN] at h
  | .wtu _, q, h => by simp [keyN] at h
  | .lsx _, q, h => by simp [keyN] at h
theorem keysN_hash (w w' : World) : ∀ {ds : List D} {ks : List NestedKey}, keysN ds = some ks → NestedKey.hashes w ks = NestedKey.hashes w' ks
  | [], ks, h => by rw [keysN] at h; cases h; rfl
  | d :: ds, ks, h => by
    rw [keysN] at h
    split at h
    · rename_i k ks' h1 h2
      cases h
      rw [NestedKey.hashes, NestedKey.hashes, keyN_hash w w' h1, keysN_hash w w' h2]
    · cases h
end
theorem tkey_tup {d : D} {q : NestedKey} (h : tkey d = some q) : ∃ ds, d = .tup ds ∧ keyN d = some q ∧ q.depth ≤ 8 := by
  cases d with
  | tup ds =>
    rw [tkey] at h
    obtain ⟨ks, h1, h2⟩ := Option.bind_eq_some_iff.mp h
    split at h2
    · rename_i hd
      cases h2
      exact ⟨ds, rfl, by rw [keyN, h1]; rfl, hd⟩
    · cases h2
  | _ => simp [tkey] at h
section
variable {X : Cx} {pins : List (Addr × Obj)} {σ : St} {H : Hp} {s : Shared} {ρ : List Addr}
mutual
theorem nested_is (I : Inv X pins σ H s) : ∀ {d : D} {q : NestedKey} {v : V} {u : Value}, keyN d = some q → Is X.K ρ H d v → RelV v u → NestedIs s.heap q u
  | .non, q, v, u, h, r, rv => by rw [keyN] at h; cases h; rw [Is] at r; subst r; cases (show u = Value.none from rv); exact .none
  | .bl b, q, v, u, h, r, rv => by rw [keyN] at h; cases h; rw [Is] at r; subst r; cases (show u = Value.bool b from rv); exact .bool rfl
  | .int i, q, v, u, h, r, rv => by rw [keyN] at h; cases h; rw [Is] at r; subst r; obtain ⟨t, rfl⟩ : ∃ t, u = Value.int i t := rv; exact .int i t
  | .tup ds, q, v, u, h, r, rv => by
    rw [keyN] at h
    obtain ⟨ks, h1, rfl⟩ := Option.map_eq_some_iff.mp h
    obtain ⟨a, vs, rfl, h2, h3⟩ := r.seqT
    cases (show u = Value.ref a from rv)
    obtain ⟨its, rel, ⟨ob, e1, e2, n, e3⟩, _⟩ := I.tuple h2
    exact .tup e1 e2 e3 (by simpa using nested_all I h1 h3 rel)
  | .str _, q, _, _, h, _, _ => by simp [keyN] at h
  | .adr _, q, _, _, h, _, _ => by simp [keyN] at h
  | .lst _, q, _, _, h, _, _ => by simp [keyN] at h
  | .ref _, q, _, _, h, _, _ => by simp [keyN] at h
  | .scr _, q, _, _, h, _, _ => by simp [keyN] at h
  | .edc, q, _, _, h, _, _ => by simp [keyN] at h
  | .fn _, q, _, _, h, _, _ => by simp [keyN] at h
  | .wtu _, q, _, _, h, _, _ => by simp [keyN] at h
  | .lsx _, q, _, _, h, _, _ => by simp [keyN] at h
theorem nested_all (I : Inv X pins σ H s) : ∀ {ds : List D} {ks : List NestedKey} {vs : List V} {us : List Value}, keysN ds = some ks → IsL X.K ρ H ds vs → Vals vs us → NestedAll s.heap ks us
  | [], ks, vs, us, h, r, rv => by rw [keysN] at h; cases h; rw [IsL] at r; subst r; cases rv; exact .nil
  | d :: ds, ks, vs, us, h, r, rv => by
    rw [keysN] at h
    split at h
    · rename_i k ks' h1 h2
      cases h
      rw [IsL] at r
      obtain ⟨v, t, rfl, r1, r2⟩ := r
      cases rv with
      | cons e1 e2 => exact .cons (nested_is I h1 r1 e1) (nested_all I h2 r2 e2)
    · cases h
end
abbrev RN : NestedKey × Addr × V → NestedKey × Addr × Value → Prop := fun p q => p.1 = q.1 ∧ p.2.1 = q.2.1 ∧ RelV p.2.2 q.2.2
theorem tkey_is (I : Inv X pins σ H s) {k : D} {q : NestedKey} {b : Addr} (h : tkey k = some q) (r : Is X.K ρ H k (.ref b)) : (nestedKind X.prog X.w).is s.heap q b := by
  obtain ⟨ds, rfl, h1, h2⟩ := tkey_tup h
  exact ⟨nested_is I h1 r rfl, h2⟩
theorem dn_is (I : Inv X pins σ H s) : ∀ {kvs : List (D × D)} {ks : List (NestedKey × Addr × V)} {xs : List (NestedKey × Addr × Value)}, IsKN X.K ρ H kvs ks → Paired RN ks xs → ∀ x ∈ xs, (nestedKind X.prog X.w).is s.heap x.1 x.2.1
  | [], ks, xs, h, p => by cases h; cases p; exact fun _ hx => nomatch hx
  | (k, d) :: r, ks, xs, h, p => by
    obtain ⟨q, b, v, t, rfl, h1, h2, h3, h4⟩ := h
    cases p with
    | cons e1 e2 =>
      rename_i y ys
      intro x hx
      rcases List.mem_cons.mp hx with rfl | hx
      · obtain ⟨a1, a2, _⟩ := e1
        dsimp only at a1 a2
        rw [← a1, ← a2]
        exact tkey_is I h1 h2
      · exact dn_is I h4 e2 x hx
theorem dn_of (I : Inv X pins σ H s) {a : Addr} {ks : List (NestedKey × Addr × V)} {kvs : List (D × D)} (h : H a = some (.ext (DnO a ks))) (hk : IsKN X.K ρ H kvs ks) : ∃ xs, Paired RN ks xs ∧ s.heap.DictOfH (nestedKind X.prog X.w) a xs := by
  obtain ⟨⟨xs, p, o, es, ep, h1, h2, h3, h4, h5⟩, _⟩ := I.hok a _ h
  exact ⟨xs, p, o, es, ep, h1, h2, h3, h4 _ _, dn_is I hk p, h5⟩
end
/-- what stands under a key -/
def lkN (kvs : List (D × D)) (q : NestedKey) : Option D := (kvs.find? fun p => decide (tkey p.1 = some q)).map (·.2)
theorem lkN_at {K : PySem.W.Frag} {ρ : List Addr} {H : Hp} {q : NestedKey} : ∀ {kvs : List (D × D)} {ks : List (NestedKey × Addr × V)} {xs : List (NestedKey × Addr × Value)}, IsKN K ρ H kvs ks → Paired RN ks xs →
    (lkN kvs q = none → atKey xs q = none) ∧ (∀ d, lkN kvs q = some d → ∃ p v, atKey xs q = some p ∧ Is K ρ H d v ∧ RelV v p.2)
  | [], ks, xs, h, p => by cases h; cases p; exact ⟨fun _ => rfl, fun d e => by cases e⟩
  | (k, d) :: r, ks, xs, h, p => by
    obtain ⟨q', b, v, t, rfl, h1, h2, h3, h4⟩ := h
    cases p with
    | cons e1 e2 =>
      rename_i y ys
      obtain ⟨a1, a2, a3⟩ := e1
      dsimp only at a1 a2 a3
      have ih := lkN_at (q := q) h4 e2
      unfold lkN atKey at ih ⊢
      rw [List.find?_cons, List.find?_cons]
      by_cases e : q' = q
      · rw [show decide (tkey (k, d).1 = some q) = true by simp [h1, e], show decide (y.1 = q) = true by simp [← a1, e]]
        simp only [Option.map_some]
        refine ⟨fun z => by simp at z, fun d' z => ?_⟩
        cases z
        exact ⟨y.2, v, rfl, h3, a3⟩
      · rw [show decide (tkey (k, d).1 = some q) = false by simp [h1, e], show decide (y.1 = q) = false by simp [← a1, e]]
        exact ih
section
variable {X : Cx} {W : WX} {a b c e : Expr} {es : List Expr} {ma mb mc me : ED} {ml : AD} {pos p2 : Pos}
/-! ### in, not in -/
def inN (x y : D) (S : Sto) : Option Bool := match y with
  | .ref l => match S[l]? with
    | some (.dcn kvs) => (tkey x).map fun q => (lkN kvs q).isSome
    | _ => none
  | _ => none
def fInN : D → D → Sto → Out D := fun x y S => need (inN x y S) fun b => .ok (.bl b) S
def fNotInN : D → D → Sto → Out D := fun x y S => need (inN x y S) fun b => .ok (.bl (!b)) S
theorem room_nest {A : Around} (hu : A.units + 65 < cLine) : (nestedKind X.prog X.w).room A.in1 := by
  show A.in1.units + 8 < cLine
  have : A.in1.units = A.units + 1 := rfl
  omega
theorem inN_any {x y : D} {b : Bool} {ρ : List Addr} {H : Hp} {S : Sto} {pins : List (Addr × Obj)} {σ : St} {s : Shared} {vx vy : V} {v u : Value} (hu : X.A.units + 65 < cLine) (hd : Held X.K ρ H S) (r1 : Is X.K ρ H x vx) (r2 : Is X.K ρ H y vy)
    (hb : inN x y S = some b) (I : Inv X pins σ H s) (rx : RelV vx v) (ry : RelV vy u) {Q Q' : VK} (q : Q (.bl b) H) (q' : Q' (.bl !b) H) :
    wpAny (model X.prog X.w) X.A (compareOp .In v u) (EP X pins σ Q) X.xe s ∧ wpAny (model X.prog X.w) X.A (compareOp .NotIn v u) (EP X pins σ Q') X.xe s := by
  unfold inN at hb
  split at hb
  · rename_i l
    split at hb
    · rename_i kvs hc
      obtain ⟨k, hk, rfl⟩ := Option.map_eq_some_iff.mp hb
      obtain ⟨ds, rfl, _, _⟩ := tkey_tup hk
      obtain ⟨a, rfl, ha, ks, h1, h2, h3⟩ := hd.at_ r2 hc
      obtain ⟨b, vs, rfl, _, _⟩ := r1.seqT
      cases (show u = Value.ref a from ry)
      cases (show v = Value.ref b from rx)
      obtain ⟨xs, p, dd⟩ := dn_of I h1 h2
      have hv := lkN_at (q := k) h2 p
      have e : (valueAt (pairsH xs) k).isSome = (lkN kvs k).isSome := by
        rw [valueAt_pairsH, Option.isSome_map]
        cases q2 : lkN kvs k with
        | none => rw [hv.1 q2]; rfl
        | some d =>
          obtain ⟨w, _, hw, _⟩ := hv.2 d q2
          rw [hw]; rfl
      exact ⟨in_keyed (room_nest hu) (tkey_is I hk r1) h3 ⟨xs, dd, rfl⟩ ⟨.bl _, H, I.tok _, rfl, by rw [e]; exact q⟩, notIn_keyed (room_nest hu) (tkey_is I hk r1) h3 ⟨xs, dd, rfl⟩ ⟨.bl _, H, I.tok _, rfl, by rw [e]; exact q'⟩⟩
    · cases hb
  · cases hb
theorem om_inN (hu : X.A.units + 65 < cLine) : OpR X (compareOp .In) (rM X.K fInN) := fun pins s σ H x y v u Q I rx ry ⟨W, σ', ρ, S, dx, dy, hd, r1, r2, g⟩ => by
  obtain ⟨b, hb, g⟩ := g.need
  exact (inN_any (Q' := fun _ _ => True) hu hd r1 r2 hb I rx ry (g.ret hd (by rw [Is])) trivial).1
theorem om_notInN (hu : X.A.units + 65 < cLine) : OpR X (compareOp .NotIn) (rM X.K fNotInN) := fun pins s σ H x y v u Q I rx ry ⟨W, σ', ρ, S, dx, dy, hd, r1, r2, g⟩ => by
  obtain ⟨b, hb, g⟩ := g.need
  exact (inN_any (Q := fun _ _ => True) hu hd r1 r2 hb I rx ry trivial (g.ret hd (by rw [Is]))).2
/-! ### d[k] -/
def ixN2 (x y : D) (S : Sto) : Option D := match x with
  | .ref l => match S[l]? with
    | some (.dcn kvs) => (tkey y).bind fun q => lkN kvs q
    | _ => none
  | _ => none
def fIxN : D → D → Sto → Out D := fun x y S => need (ixN2 x y S) fun d => .ok d S
theorem im_ixN (hu : X.A.units + 65 < cLine) : IxR X (rM X.K fIxN) := fun ve se pins s σ H x y v u Q I rx ry ⟨W, σ', ρ, S, dx, dy, hd, r1, r2, g0⟩ hs => by
  obtain ⟨d, hb, g⟩ := g0.need
  clear g0
  unfold ixN2 at hb
  split at hb
  · rename_i l
    split at hb
    · rename_i kvs hc
      obtain ⟨k, hk, hl⟩ := Option.bind_eq_some_iff.mp hb
      obtain ⟨ds, rfl, _, _⟩ := tkey_tup hk
      obtain ⟨a, rfl, ha, ks, h1, h2, h3⟩ := hd.at_ r1 hc
      obtain ⟨b, vs, rfl, _, _⟩ := r2.seqT
      cases (show v = Value.ref a from rx)
      cases (show u = Value.ref b from ry)
      obtain ⟨xs, p, dd⟩ := dn_of I h1 h2
      obtain ⟨w, w1, hw, hi, hr⟩ := (lkN_at (q := k) h2 p).2 d hl
      exact PyProof.Rows.tail_any dd.typeIs PySem.F.slot_dict_getitem.lookup (getItem_keyed (room_nest hu) (tkey_is I hk r2) ⟨xs, dd, rfl⟩ (by rw [valueAt_pairsH, hw]; rfl) ⟨w1, H, I.tok _, hr, g.ret hd hi⟩) hs
    · cases hb
  · cases hb
theorem pm_ixN (hu : X.A.units + 65 < cLine) (ha : PE X a (tE X.K W ma)) (hb : PE X b (tE X.K W mb)) (hs : PlainIx b := by exact fun _ _ => rfl) : PE X (.Subscript a b pos) (tE X.K W (mOp fIxN ma mb)) :=
  (pe_ix (im_ixN hu) ha hb hs).md fun _ _ _ h => md_op rM_ok h
/-! ### d[k] = v -/
def smallN (n : Nat) : Bool := decide (n ≤ 16000000)
theorem smallN_lt {n : Nat} (h : smallN n = true) : n ≤ sizeLine := Nat.le_trans (of_decide_eq_true h) (by decide)
def putN (kvs : List (D × D)) (k : D) (q : NestedKey) (v : D) : List (D × D) := if (lkN kvs q).isSome then kvs.map (fun kv => if tkey kv.1 = some q then (kv.1, v) else kv) else kvs ++ [(k, v)]
def fSetN : D → D → D → Sto → Out Unit := fun o i v S => match o with
  | .ref l => match S[l]? with
    | some (.dcn kvs) => need (tkey i) fun q => guardO (smallN kvs.length) (.ok () (S.set l (.dcn (putN kvs i q v))))
    | _ => .no
  | _ => .no
def putKN (ks : List (NestedKey × Addr × V)) (q : NestedKey) (b : Addr) (v : V) (t : Bool) : List (NestedKey × Addr × V) := if t then ks.map (fun x => if x.1 = q then (x.1, x.2.1, v) else x) else ks ++ [(q, b, v)]
theorem IsKN.app {K : PySem.W.Frag} {ρ : List Addr} {H : Hp} {k d : D} {q : NestedKey} {b : Addr} {v : V} (h1 : tkey k = some q) (h2 : Is K ρ H k (.ref b)) (h3 : Is K ρ H d v) : ∀ {kvs : List (D × D)} {ks : List (NestedKey × Addr × V)}, IsKN K ρ H kvs ks → IsKN K ρ H (kvs ++ [(k, d)]) (ks ++ [(q, b, v)])
  | [], ks, h => by cases h; exact ⟨q, b, v, [], rfl, h1, h2, h3, rfl⟩
  | (k', d') :: r, ks, h => by
    obtain ⟨q', b', v', t, rfl, g1, g2, g3, g4⟩ := h
    exact ⟨q', b', v', _, rfl, g1, g2, g3, IsKN.app h1 h2 h3 g4⟩
theorem IsKN.over {K : PySem.W.Frag} {ρ : List Addr} {H : Hp} {d : D} {q : NestedKey} {v : V} (h3 : Is K ρ H d v) : ∀ {kvs : List (D × D)} {ks : List (NestedKey × Addr × V)}, IsKN K ρ H kvs ks →
    IsKN K ρ H (kvs.map (fun kv => if tkey kv.1 = some q then (kv.1, d) else kv)) (ks.map (fun x => if x.1 = q then (x.1, x.2.1, v) else x))
  | [], ks, h => by cases h; rfl
  | (k', d') :: r, ks, h => by
    obtain ⟨q', b', v', t, rfl, g1, g2, g3, g4⟩ := h
    rw [List.map_cons, List.map_cons]
    by_cases e : q' = q
    · rw [if_pos (by rw [← e]; exact g1), if_pos e]
      exact ⟨q', b', v, _, rfl, g1, g2, h3, IsKN.over h3 g4⟩
    · rw [if_neg (by rw [g1]; exact fun z => e (Option.some.inj z)), if_neg e]
      exact ⟨q', b', v', _, rfl, g1, g2, g3, IsKN.over h3 g4⟩
theorem pair_app {ks : List (NestedKey × Addr × V)} {xs : List (NestedKey × Addr × Value)} {p : NestedKey × Addr × V} {x : NestedKey × Addr × Value} (r : RN p x) (h : Paired RN ks xs) : Paired RN (ks ++ [p]) (xs ++ [x]) := by
  induction h with
  | nil => exact .cons r .nil
  | cons e _ ih => exact .cons e ih
theorem pair_over {q : NestedKey} {v : V} {u : Value} (r : RelV v u) {ks : List (NestedKey × Addr × V)} {xs : List (NestedKey × Addr × Value)} (h : Paired RN ks xs) : Paired RN (ks.map (fun x => if x.1 = q then (x.1, x.2.1, v) else x)) (xs.map (putAt q u)) := by
  induction h with
  | nil => exact .nil
  | @cons p x l1 l2 e t ih =>
    refine .cons ?_ ih
    obtain ⟨a1, a2, a3⟩ := e
    show RN (if p.1 = q then (p.1, p.2.1, v) else p) (putAt q u x)
    unfold putAt
    by_cases e : p.1 = q
    · rw [if_pos e, if_pos (a1 ▸ e)]; exact ⟨a1, a2, r⟩
    · rw [if_neg e, if_neg (a1 ▸ e)]; exact ⟨a1, a2, a3⟩
theorem pair_len {ks : List (NestedKey × Addr × V)} {xs : List (NestedKey × Addr × Value)} (h : Paired RN ks xs) : ks.length = xs.length := by
  induction h with
  | nil => rfl
  | cons _ _ ih => simp [ih]
theorem kn_len {K : PySem.W.Frag} {ρ : List Addr} {H : Hp} : ∀ {kvs : List (D × D)} {ks : List (NestedKey × Addr × V)}, IsKN K ρ H kvs ks → ks.length = kvs.length
  | [], _, h => by cases h; rfl
  | (_, _) :: r, _, h => by
    obtain ⟨_, _, _, t, rfl, _, _, _, g4⟩ := h
    simp [kn_len g4]
/-- the hashes of its keys are no matter of the world -/
theorem dn_hash {K : PySem.W.Frag} {ρ : List Addr} {H : Hp} {P P' : Program} {w w' : World} : ∀ {kvs : List (D × D)} {ks : List (NestedKey × Addr × V)} {xs : List (NestedKey × Addr × Value)}, IsKN K ρ H kvs ks → Paired RN ks xs → xs.map (entryOfKey (nestedKind P w)) = xs.map (entryOfKey (nestedKind P' w'))
  | [], ks, xs, h, p => by cases h; cases p; rfl
  | (k, d) :: r, ks, xs, h, p => by
    obtain ⟨q', b, v, t, rfl, h1, h2, h3, h4⟩ := h
    cases p with
    | cons e1 e2 =>
      rename_i y ys
      rw [List.map_cons, List.map_cons, dn_hash (P' := P') (w' := w') h4 e2]
      congr 1
      obtain ⟨ds, _, hk, _⟩ := tkey_tup h1
      have : y.1.hash w = y.1.hash w' := by rw [← e1.1]; exact keyN_hash w w' hk
      unfold entryOfKey
      show DictEntry.mk (y.1.hash w) _ _ = DictEntry.mk (y.1.hash w') _ _
      rw [this]
theorem dn_new {P : Program} {w : World} {H' : Hp} {h' : Heap} {a : Addr} {K : PySem.W.Frag} {ρ : List Addr} {kvs : List (D × D)} {ks : List (NestedKey × Addr × V)} {xs : List (NestedKey × Addr × Value)} {HH : Hp} (hk : IsKN K ρ HH kvs ks) (p : Paired RN ks xs) (dd : h'.DictOfH (nestedKind P w) a xs) :
    ObjOk P w H' h' a (.ext (DnO a ks)) := by
  obtain ⟨o, es, ep, h1, h2, h3, h4, h5, h6⟩ := dd
  refine ⟨⟨xs, p, o, es, ep, h1, h2, h3, fun P' w' => h4.trans (dn_hash hk p), h6⟩, ⟨o, h1⟩, fun g1 g2 ⟨xs', p', o', es', ep', k1, k2⟩ hh => ⟨xs', p', o', es', ep', hh _ k1, k2⟩⟩
def rSetN (K : PySem.W.Frag) : TSet := fun o i v H Q => ∃ (W : WX) (σ : St) (ρ : List Addr) (S : Sto) (dO dI dV : D), Held K ρ H S ∧ Is K ρ H dO o ∧ Is K ρ H dI i ∧ Is K ρ H dV v ∧ Good K W σ RU (fun _ H' => Q H') ρ H (fSetN dO dI dV S)
theorem setN_md (hu : X.A.units + 65 < cLine) : PSet X (rSetN X.K) := by
  intro pins s σ H o i v ov iv u Q I ro ri rv ⟨W, σ', ρ, S, dO, dI, dV, hd, r1, r2, r3, g⟩
  unfold fSetN at g
  split at g
  · rename_i l
    split at g
    · rename_i kvs hc
      obtain ⟨q, hq, g⟩ := g.need
      obtain ⟨c, g2⟩ := g.guard
      obtain ⟨ds, rfl, _, _⟩ := tkey_tup hq
      obtain ⟨ad, rfl, ha, ks, h1, h2, h3⟩ := hd.at_ r1 hc
      obtain ⟨b, vs, rfl, _, _⟩ := r2.seqT
      cases (show ov = Value.ref ad from ro)
      cases (show iv = Value.ref b from ri)
      obtain ⟨xs, p, dd⟩ := dn_of I h1 h2
      have hz : xs.length ≤ sizeLine := by rw [← pair_len p, kn_len h2]; exact smallN_lt c
      refine wpAny_setItem_heap (hsz := hz) (room_nest hu) (tkey_is I hq r2) dd fun h' dd' hs => ?_
      have he : ∃ z, h'.get? ad = some z := let ⟨z, _, _, hz, _⟩ := dd'; ⟨z, hz⟩
      have hv := lkN_at (q := q) h2 p
      obtain ⟨ks', h2', p'⟩ : ∃ ks', IsKN X.K ρ H (putN kvs (.tup ds) q dV) ks' ∧ Paired RN ks' (storedH xs q b u) := by
        unfold putN
        cases q2 : lkN kvs q with
        | none =>
          rw [storedH_new (hv.1 q2), if_neg (by simp)]
          exact ⟨_, IsKN.app hq r2 r3 h2, pair_app ⟨rfl, rfl, rv⟩ p⟩
        | some d =>
          obtain ⟨w, _, hw, _⟩ := hv.2 d q2
          rw [storedH_old hw, if_pos (by simp)]
          exact ⟨_, IsKN.over r3 h2, pair_over rv p⟩
      have I' := d_write (t' := s.toks + (nestedKind X.prog X.w).draws q) I (by rw [h1]; exact True.intro) hs he (dn_new h2' p' dd' (H' := upd H ad (.ext (DnO ad ks'))))
      obtain ⟨h3', e3⟩ := hd.write (o := .ext (DnO ad ks')) (c := .dcn (putN kvs (.tup ds) q dV)) ha ⟨_, upd_same, h2'.ext (Held.ext_write (List.mem_of_getElem? ha)), h3⟩
      exact ⟨_, I', g2 ρ _ () h3' e3 trivial⟩
    · exact g.elim
  · exact g.elim
def sSubN (mo mi me : ED) : SD := fun loc S => (me loc S).thn loc fun v S1 => (mo loc S1).thn loc fun o S2 => (mi loc S2).thn loc fun i S3 => (fSetN o i v S3).thn loc fun _ S4 => .nx loc S4
theorem pms_subN {o i : Expr} {tp : Pos} (hu : X.A.units + 65 < cLine) (ho : PE X o (tE X.K W ma)) (hi : PE X i (tE X.K W mb)) (he : PE X e (tE X.K W me))
    (ha : ∀ v, assign (.Subscript o i tp) X.env v = (do
      let ov ← holding [v] (eval o X.env)
      let iv ← holding [v, ov] (eval i X.env)
      standAt tp
      holding [v, ov, iv] (setItem ov iv v)
      release [v, ov, iv] []) := by intro _; rfl)
    (hs : swapsWithSole [.Subscript o i tp] e pos.line X.env = pure false := by rfl) (hw : swappedStores [.Subscript o i tp] e X.env = pure none := by rfl)
    (h1 : (assignEach [.Subscript o i tp] X.env).map (·.2) = [assign (.Subscript o i tp) X.env] := by rfl) : PS X (.Assign [.Subscript o i tp] e pos) (tS X.K W (sSubN ma mb me)) :=
  (ps_asg he (pg_sub ho hi (setN_md hu) ha) hs hw h1).md fun En σ H ⟨ρ, loc, S, rl, hd, g⟩ => ⟨ρ, loc, S, rl, hd, GoodS.thn rl g fun dv S1 ρ1 H1 xv hd1 e1 r1 g1 =>
    ⟨ρ1, loc, S1, rl.ext e1, hd1, GoodS.thn (rl.ext e1) g1 fun dO S2 ρ2 H2 xo hd2 e2 r2 g2 =>
      ⟨ρ2, loc, S2, (rl.ext e1).ext e2, hd2, GoodS.thn ((rl.ext e1).ext e2) g2 fun dI S3 ρ3 H3 xi hd3 e3 r3 g3 =>
        ⟨W, σ, ρ3, S3, dO, dI, dv, hd3, r2.ext e3, r3, (r1.ext e2).ext e3, GoodS.thn (((rl.ext e1).ext e2).ext e3) g3 fun _ S4 ρ4 H4 _ hd4 e4 _ g4 => g4 ρ4 H4 σ hd4 Ext.refl ((((rl.ext e1).ext e2).ext e3).ext e4)⟩⟩⟩⟩
/-! ### {} -/
def mDcn0 : ED := fun _ S => .ok (.ref S.length) (S ++ [.dcn []])
theorem dcn_empty {P : Program} {w : World} {H' : Hp} (h : Heap) : ObjOk P w H' (h.push { cls := .type "dict", data := .dict #[] }) h.objs.size (.ext (DnO h.objs.size [])) := by
  obtain ⟨o, es, ep, h1, h2, h3, h4, h5, h6⟩ := Heap.DictOfH.new (knd := nestedKind P w) h
  have h4' : es.toList = [] := h4
  exact ⟨⟨[], .nil, o, es, ep, h1, h2, h3, fun P' w' => h4', h6⟩, ⟨o, h1⟩, fun g1 g2 ⟨xs', p', o', es', ep', k1, k2⟩ hh => ⟨xs', p', o', es', ep', hh _ k1, k2⟩⟩
theorem pm_dcn0 {pos : Pos} : PE X (.Dict [] [] pos) (tE X.K W mDcn0) := ⟨fun pins s σ H Q I ⟨ρ, loc, S, rl, hd, g⟩ => by
  have np := I.hok.fresh (Nat.le_refl s.heap.objs.size)
  have hb : (s.heap.objs.size == sysModules) = false := beq_eq_false_iff_ne.mpr (Ne.symm (Nat.ne_of_lt I.big))
  obtain ⟨h4, e4, r4⟩ := hd.push (o := .ext (DnO s.heap.objs.size [])) (c := .dcn []) np ⟨[], upd_same, rfl, hb⟩
  exact wpAny_Dict_empty ⟨.ref s.heap.objs.size, _, I.laid (a := s.heap.objs.size) (o := .ext (DnO s.heap.objs.size [])) (t' := s.toks) (fun _ _ q => Heap.get?_push_of_some _ q) (Nat.le_refl _) (dcn_empty s.heap), rfl, g _ _ _ h4 e4 r4⟩⟩
end
end Md

set_option Elab.async false
set_option linter.all false
set_option maxRecDepth 100000
set_option maxHeartbeats 2000000
/-! Md37: dict(d), d.pop(k, x), d == {}, [.. for k, v in d.items() ..]. -/
namespace Md
open PySem PySem.Spec L2
theorem dK_of {P : Program} {w : World} {H : Hp} {h : Heap} (ok : HOk P w H h) {a : Addr} {ks : List (Key × V)} (e : H a = some (.dK ks)) : (a == sysModules) = false ∧ ∃ vs, KV ks vs ∧ h.DictOf (mixKind P w) a vs := by
  obtain ⟨_, hd, vs, rel, dd⟩ := (show ObjOk P w H h a (.dK ks) from ok a _ e)
  exact ⟨hd, vs, rel, dd⟩
section
variable {X : Cx} {W : WX} {a b c e : Expr} {es : List Expr} {ma mb mc me : ED} {ml : AD} {pos p2 : Pos}
/-! ### dict(d) -/
def fDict : List D → Sto → Out D
  | [.ref l], S => need (dctL S l) fun kvs => .ok (.ref S.length) (S ++ [.dct kvs])
  | _, _ => .no
theorem dctL_at {S : Sto} {l : Nat} {kvs : List (D × D)} (h : dctL S l = some kvs) : S[l]? = some (.dct kvs) := by
  unfold dctL at h
  split at h
  · rename_i q; cases h; exact q
  · cases h
theorem cm_dict : CallR X (.type "dict") (rCM X.K fDict) := fun pins s σ H xs us Q I r ⟨W, σ', ρ, S, ds, hd, r0, g0⟩ => by
  unfold fDict at g0
  split at g0
  · rename_i l
    obtain ⟨kvs, hc, g⟩ := g0.need
    obtain ⟨x, rfl, r1⟩ := r0.one
    obtain ⟨a, rfl, ha, ks, h1, h2⟩ := hd.at_ r1 (dctL_at hc)
    obtain ⟨u, rfl, ru⟩ := vals1 r
    cases (show u = Value.ref a from ru)
    refine d_copyOf I (Rd.of h1) fun p s' np I' => ?_
    obtain ⟨h4, e4, r4⟩ := hd.push (o := .dK ks) (c := .dct kvs) np ⟨ks, upd_same, h2.ext ⟨⟨[p], rfl⟩, fun c u m q => by
      have ne := ne_of_none q np
      exact ⟨by simp [m, ne], by rw [upd_ne ne]; exact q⟩⟩⟩
    exact ⟨.ref p, _, I', rfl, g _ _ _ h4 e4 r4⟩
  · exact g0.elim
/-! ### d.pop(k, x) -/
def dropD (kvs : List (D × D)) (k : D) : List (D × D) := kvs.filter fun kv => decide (kv.1 ≠ k)
theorem IsKV.drop {K : PySem.W.Frag} {ρ : List Addr} {H : Hp} {k : D} {q : Key} (hk : keyD k = some q) : ∀ {kvs : List (D × D)} {ks : List (Key × V)}, IsKV K ρ H kvs ks → IsKV K ρ H (dropD kvs k) (dropK ks q)
  | [], _, h => by cases h; rfl
  | (k', d') :: r, _, h => by
    obtain ⟨q', v, t, rfl, h1, h2, h3⟩ := h
    unfold dropD dropK
    rw [List.filter_cons, List.filter_cons]
    by_cases e : k' = k
    · subst e
      rw [hk] at h1; cases h1
      rw [if_neg (by simp), if_neg (by simp)]
      exact IsKV.drop hk h3
    · have ne : ¬ q' = q := fun z => e (by subst z; exact keyD_inj h1 hk)
      rw [if_pos (by simp [e]), if_pos (by simp [ne])]
      exact ⟨q', v, _, rfl, h1, h2, IsKV.drop hk h3⟩
def fPopD : D → List D → Sto → Out D
  | .ref l, [k, x], S => match S[l]? with
    | some (.dct kvs) => need (keyD k) fun _ => match lkD kvs k with
      | some v => .ok v (S.set l (.dct (dropD kvs k)))
      | none => .ok x S
    | _ => .no
  | _, _, _ => .no
theorem mm_popD : MtR X "dict.pop" (rMM X.K fPopD) := fun pins s σ H x xs v us Q I rx rxs ⟨W, σ', ρ, S, d, ds, hd, r1, r2, g0⟩ => by
  unfold fPopD at g0
  split at g0
  · rename_i l k x'
    split at g0
    · rename_i kvs hc
      obtain ⟨q, hq, g⟩ := g0.need
      obtain ⟨a, rfl, ha, ks, h1, h2⟩ := hd.at_ r1 hc
      obtain ⟨y, z, rfl, r3, r4⟩ := r2.two
      obtain rfl := keyD_V hq r3
      obtain ⟨u1, u2, rfl, ru1, ru2⟩ := vals2 rxs
      cases (show v = Value.ref a from rx)
      have hv := lkD_val hq h2
      cases e : lkD kvs k with
      | none =>
        rw [e] at g
        exact d_popD I h1 ru1 (hv.2 e) fun s' I' => ⟨z, H, I', ru2, g.ret hd r4⟩
      | some d =>
        rw [e] at g
        obtain ⟨v', h3, i3⟩ := hv.1 d e
        refine d_pop I h1 ru1 h3 (.inr ⟨u2, rfl⟩) fun w' s' I' rw' => ?_
        obtain ⟨h7, e8⟩ := hd.write (o := .dK (dropK ks q)) (c := .dct (dropD kvs k)) ha ⟨_, upd_same, (IsKV.drop hq h2).ext (Held.ext_write (List.mem_of_getElem? ha))⟩
        exact ⟨v', _, I', rw', g ρ _ v' h7 e8 (i3.ext e8)⟩
    · exact g0.elim
  · exact g0.elim
/-! ### d == {} -/
def eq0 (x y : D) (S : Sto) : Option Bool := match x, y with
  | .ref l, .edc => (dctL S l).map fun kvs => kvs.isEmpty
  | _, _ => none
def fEqD0 : D → D → Sto → Out D := fun x y S => need (eq0 x y S) fun b => .ok (.bl b) S
def fNeD0 : D → D → Sto → Out D := fun x y S => need (eq0 x y S) fun b => .ok (.bl (!b)) S
theorem eq0_any {x y : D} {b : Bool} {ρ : List Addr} {H : Hp} {S : Sto} {pins : List (Addr × Obj)} {σ : St} {s : Shared} {vx vy : V} {v u : Value} (hu : X.A.units < cLine) (hd : Held X.K ρ H S) (r1 : Is X.K ρ H x vx) (r2 : Is X.K ρ H y vy)
    (hb : eq0 x y S = some b) (I : Inv X pins σ H s) (rx : RelV vx v) (ry : RelV vy u) {Q Q' : VK} (q : Q (.bl b) H) (q' : Q' (.bl !b) H) :
    wpAny (model X.prog X.w) X.A (compareOp .Eq v u) (EP X pins σ Q) X.xe s ∧ wpAny (model X.prog X.w) X.A (compareOp .NotEq v u) (EP X pins σ Q') X.xe s := by
  unfold eq0 at hb
  split at hb
  · rename_i l
    obtain ⟨kvs, hc, rfl⟩ := Option.map_eq_some_iff.mp hb
    obtain ⟨a, rfl, ha, ks, h1, h2⟩ := hd.at_ r1 (dctL_at hc)
    rw [Is] at r2
    obtain ⟨c, rfl, _, h3⟩ := r2
    cases (show v = Value.ref a from rx)
    cases (show u = Value.ref c from ry)
    obtain ⟨ya, va, ra, da⟩ := dK_of I.hok h1
    obtain ⟨yb, vb, rb, db⟩ := dK_of I.hok h3
    have lb : vb.length = 0 := by rw [← rb.length]; rfl
    have la : va.length = kvs.length := by rw [← ra.length, h2.length]
    have e : (va.length == vb.length && true) = kvs.isEmpty := by
      rw [lb, la]
      cases kvs <;> simp
    have hits : va.length = vb.length → PySem.W.KeqHits X.A.in1 s vb va true := fun z => by
      rw [lb] at z
      obtain rfl := List.eq_nil_of_length_eq_zero z
      exact .nil
    refine ⟨PySem.W.keq_eq (knd := mixKind X.prog X.w) (r := true) ya yb da db hu hits ⟨.bl _, H, I, rfl, by rw [e]; exact q⟩, PySem.W.keq_ne (knd := mixKind X.prog X.w) (r := true) ya yb da db hu hits ⟨.bl _, H, I, rfl, by rw [e]; exact q'⟩⟩
  · cases hb
theorem om_eqD0 (hu : X.A.units < cLine) : OpR X (compareOp .Eq) (rM X.K fEqD0) := fun pins s σ H x y v u Q I rx ry ⟨W, σ', ρ, S, dx, dy, hd, r1, r2, g⟩ => by
  obtain ⟨b, hb, g⟩ := g.need
  exact (eq0_any (Q' := fun _ _ => True) hu hd r1 r2 hb I rx ry (g.ret hd (by rw [Is])) trivial).1
theorem om_neD0 (hu : X.A.units < cLine) : OpR X (compareOp .NotEq) (rM X.K fNeD0) := fun pins s σ H x y v u Q I rx ry ⟨W, σ', ρ, S, dx, dy, hd, r1, r2, g⟩ => by
  obtain ⟨b, hb, g⟩ := g.need
  exact (eq0_any (Q := fun _ _ => True) hu hd r1 r2 hb I rx ry trivial (g.ret hd (by rw [Is]))).2
end
/-! ### [.. for k, v in d.items() ..] -/
/-- as tLockE; what is found locked behind is told behind -/
def tLockX (t : TE) : TE := fun σ H Q => ∃ d u, H d = some u ∧ Mut (some u) ∧ ∀ od, t σ (upd H d (.frz od u)) fun v H' => ∃ o' u', H' d = some (.frz o' u') ∧ Q v (upd H' d u')
theorem pe_lockX {X : Cx} {e : Expr} {t : TE} (h : PE X e t) : PE X e (tLockX t) := by
  refine ⟨fun pins s σ H Q I hw => ?_⟩
  obtain ⟨d, u, hd, mu, hw⟩ := hw
  obtain ⟨od, I1⟩ := I.lock hd mu
  refine thn (h.run pins s σ _ _ I1 (hw od)) fun v s1 ⟨x, H1, I2, r, o', u', e2, q⟩ => ?_
  exact ⟨x, _, I2.unlock e2 (I.nofrz hd mu), r, q⟩
section
variable {α β : Type}
theorem need_ok {o : Option α} {k : α → Out β} {b : β} {S : Sto} (h : need o k = .ok b S) : ∃ a, o = some a ∧ k a = .ok b S := by
  cases o with
  | none => cases h
  | some a => exact ⟨a, rfl, h⟩
theorem guard_ok {c : Bool} {k : Out β} {b : β} {S : Sto} (h : guardO c k = .ok b S) : c = true ∧ k = .ok b S := by
  cases c with
  | false => cases h
  | true => exact ⟨rfl, h⟩
theorem bindN_ok {o : Out α} {k : α → Sto → Out β} {b : β} {S : Sto} (h : (noex o).bind k = .ok b S) : ∃ a S1, o = .ok a S1 ∧ k a S1 = .ok b S := by
  cases o with
  | ok a S1 => exact ⟨a, S1, rfl, h⟩
  | ex x S1 => cases h
  | no => cases h
end
def plnD : D → Option D
  | .int i => some (.int i)
  | .bl b => some (.bl b)
  | .non => some .non
  | _ => none
def plnL (loc : Md.Loc) : Md.Loc := loc.map fun o => o.bind plnD
def isIntD : D → Bool
  | .int _ => true
  | _ => false
def itemsD (kvs : List (D × D)) : List D := kvs.map fun kv => D.wtu [kv.1, kv.2]
def lkRef (mo : ED) (loc : Md.Loc) (S : Sto) : Option (Nat × List (D × D)) := match mo loc S with
  | .ok (.ref l) _ => (dctL S l).map fun kvs => (l, kvs)
  | _ => none
def sameO (o : Out D) (l : Nat) (S : Sto) : Bool := match o with
  | .ok d S' => decide (d = .ref l) && decide (S' = S)
  | _ => false
def mLcIt (mo : ED) (mg : TD) (mt : BD) (me : ED) (vs : List Nat) : ED := fun loc S => need (lkRef mo loc S) fun p =>
  guardO (sameO (mo loc (S.set p.1 (.lkd p.2))) p.1 (S.set p.1 (.lkd p.2)) && p.2.all fun kv => isIntD kv.2)
    ((noex (lcGo (fun _ => true) mg mt me (wipeL (plnL loc) vs) (itemsD p.2) [] [])).bind fun ds _ => guardO (ds.all isIntD) (.ok (.lst ds) S))
theorem pln_rel {K : PySem.W.Frag} {ρ ρ' : List Addr} {H H' : Hp} {σ : St} {loc : Md.Loc} (h : RelL K ρ σ H loc) : RelL K ρ' σ H' (plnL loc) := by
  refine ⟨by unfold plnL; rw [List.length_map]; exact h.len, fun i d e => ?_⟩
  unfold plnL at e
  rw [List.getElem?_map] at e
  obtain ⟨o, e1, e2⟩ := Option.map_eq_some_iff.mp e
  obtain ⟨d0, rfl, e3⟩ := Option.bind_eq_some_iff.mp e2
  obtain ⟨v, h1, h2⟩ := h.at_ i d0 e1
  refine ⟨v, h1, ?_⟩
  unfold plnD at e3
  split at e3 <;> (try cases e3) <;> (rw [Is] at h2 ⊢; exact h2)
theorem isL_intD {K : PySem.W.Frag} {ρ ρ' : List Addr} {H H' : Hp} : ∀ {ds : List D} {vs : List V}, ds.all isIntD = true → IsL K ρ H ds vs → IsL K ρ' H' ds vs
  | [], _, _, h => by rw [IsL] at h ⊢; exact h
  | d :: ds, _, c, h => by
    rw [List.all_cons, Bool.and_eq_true] at c
    rw [IsL] at h ⊢
    obtain ⟨v, t, rfl, h1, h2⟩ := h
    refine ⟨v, t, rfl, ?_, isL_intD c.2 h2⟩
    cases d with
    | int i => rw [Is] at h1 ⊢; exact h1
    | _ => simp [isIntD] at c
theorem kvs_item {K : PySem.W.Frag} {ρ ρ' : List Addr} {H H' : Hp} : ∀ {kvs : List (D × D)} {ks : List (Key × V)} {i : Nat} {kd : D × D} {k : Key} {v : V}, (kvs.all fun kv => isIntD kv.2) = true → IsKV K ρ H kvs ks → kvs[i]? = some kd → ks[i]? = some (k, v) → IsL K ρ' H' [kd.1, kd.2] [kV k, v]
  | [], _, _, _, _, _, _, _, e, _ => by simp at e
  | (k0, d0) :: r, _, i, kd, k, v, c, h, e1, e2 => by
    rw [List.all_cons, Bool.and_eq_true] at c
    obtain ⟨q, w, t, rfl, h1, h2, h3⟩ := h
    cases i with
    | zero =>
      simp at e1 e2
      obtain ⟨rfl, rfl⟩ := e2
      subst e1
      refine IsL.cons ?_ (IsL.cons ?_ IsL.nil)
      · cases k0 with
        | int i => cases h1; rw [Is]; rfl
        | str x => cases h1; rw [Is]; rfl
        | _ => cases h1
      · cases d0 with
        | int i => rw [Is] at h2 ⊢; exact h2
        | _ => simp [isIntD] at c
    | succ j => exact kvs_item (i := j) c.2 h3 (by simpa using e1) (by simpa using e2)
theorem held_all {K : PySem.W.Frag} {ρ : List Addr} {H H' : Hp} {S : Sto} (h : Held K ρ H S) (k : ∀ a o, H a = some o → H' a = some o) : Held K ρ H' S ∧ Ext ρ H ρ H' :=
  have e : Ext ρ H ρ H' := ⟨List.prefix_refl _, fun a o n q => ⟨n, k a o q⟩⟩
  ⟨⟨h.len, h.nd, fun l c a h1 h2 => (h.cell l c a h1 h2).ext e (k a)⟩, e⟩
section
variable {X : Cx} {W : WX} {g : TG} {mg : TD} {mt : BD} {me mo : ED} {is vs : List Nat}
theorem lcIt_md {K : PySem.W.Frag} (hm : TgM K g mg is) (his : ∀ i ∈ is, i ∈ vs) {σ : St} {H : Hp} {Q : VK} (h : tE K W (mLcIt mo mg mt me vs) σ H Q) :
    tLockX (tLc (iItems (tE K WF mo)) g (tHidT (tT K WF mt)) (tHid (tE K WF me)) vs) σ H Q := by
  obtain ⟨ρ, loc, S, rl, hd, gg⟩ := h
  obtain ⟨⟨l, kvs⟩, hl, gg⟩ := gg.need
  obtain ⟨hc, gg⟩ := gg.guard
  rw [Bool.and_eq_true] at hc
  obtain ⟨hs, hint⟩ := hc
  have hS : S[l]? = some (.dct kvs) := by
    unfold lkRef at hl
    split at hl
    · obtain ⟨k2, h1, h2⟩ := Option.map_eq_some_iff.mp hl
      cases h2
      exact dctL_at h1
    · cases hl
  obtain ⟨d, hρ⟩ : ∃ d, ρ[l]? = some d := by
    have := (List.getElem?_eq_some_iff.mp hS).1
    rw [← hd.len] at this
    exact ⟨ρ[l], List.getElem?_eq_getElem this⟩
  obtain ⟨ks, h1, h2⟩ := hd.cell l _ d hS hρ
  refine ⟨d, .dK ks, h1, trivial, fun od => ?_⟩
  obtain ⟨hdL, eL⟩ := hd.write (o := .frz od (.dK ks)) (c := .lkd kvs) hρ ⟨od, ks, upd_same, h2.ext (Held.ext_write (List.mem_of_getElem? hρ))⟩
  have hmo : mo loc (S.set l (.lkd kvs)) = .ok (.ref l) (S.set l (.lkd kvs)) := by
    unfold sameO at hs
    split at hs
    · rename_i d' S' e
      rw [Bool.and_eq_true, decide_eq_true_eq, decide_eq_true_eq] at hs
      obtain ⟨rfl, rfl⟩ := hs
      exact e
    · cases hs
  obtain ⟨ds, Sx, hgo⟩ : ∃ ds Sx, lcGo (fun _ => true) mg mt me (wipeL (plnL loc) vs) (itemsD kvs) [] [] = .ok ds Sx := by
    cases e : lcGo (fun _ => true) mg mt me (wipeL (plnL loc) vs) (itemsD kvs) [] [] with
    | ok ds Sx => exact ⟨_, _, rfl⟩
    | ex x S' => dsimp only at gg; rw [e] at gg; exact gg.elim
    | no => dsimp only at gg; rw [e] at gg; exact gg.elim
  dsimp only at gg
  rw [hgo] at gg
  obtain ⟨hds, gg⟩ := Good.guard (show Good K W σ (Is K) Q ρ H (guardO (ds.all isIntD) (.ok (.lst ds) S)) from gg)
  refine ⟨ρ, loc, S.set l (.lkd kvs), rl.ext eL, hdL, ?_⟩
  rw [hmo]
  intro ρ1 H1 x hd1 e1 r1
  have hl' : (S.set l (.lkd kvs))[l]? = some (.lkd kvs) := List.getElem?_set_self (List.getElem?_eq_some_iff.mp hS).1
  obtain ⟨d', rfl, hρ1, o', ks', q1, q2⟩ := hd1.at_ r1 hl'
  obtain rfl : d' = d := by
    have := e1.get hρ
    rw [hρ1] at this
    exact Option.some.inj this
  refine ⟨d', o', ks', rfl, q1, fun Dd nD => ?_⟩
  have hlen : ks'.length = kvs.length := q2.length
  have hil : (itemsD kvs).length = kvs.length := by unfold itemsD; rw [List.length_map]
  have neD : d' ≠ Dd := ne_of_none q1 nD
  let P : Nat → Hp → Prop := fun i H => i ≤ kvs.length ∧ ∃ ρ2 Hs S2 acc dacc, H = upd Hs Dd (.lst acc) ∧ Hs Dd = none ∧ Dd ∉ ρ2 ∧ Held K ρ2 Hs S2 ∧ Ext [] H1 ρ2 Hs ∧ IsL K ρ2 Hs dacc acc ∧
    lcGo (fun _ => true) mg mt me (wipeL (plnL loc) vs) ((itemsD kvs).drop i) dacc S2 = .ok ds Sx
  refine ⟨fun i m H => m = kvs.length - i ∧ P i H, ⟨_, rfl, Nat.zero_le _, [], H1, [], [], [], rfl, nD, List.not_mem_nil, ⟨rfl, List.nodup_nil, fun l c a h => by simp at h⟩, Ext.refl, IsL.nil, hgo⟩, ?_⟩
  rintro i m H ⟨rfl, hi, ρ2, Hs, S2, acc, dacc, rfl, nDs, npD, hd2, e2, ra, g2⟩
  have sub : ∀ b o, Hs b = some o → upd Hs Dd (.lst acc) b = some o := fun b o q => by rw [upd_ne (ne_of_none q nDs)]; exact q
  have qd : Hs d' = some (.frz o' (.dK ks')) := (e2.keep _ _ List.not_mem_nil q1).2
  by_cases hlt : i < kvs.length
  · have hlt' : i < (itemsD kvs).length := by rw [hil]; exact hlt
    rw [List.drop_eq_getElem_cons hlt', lcGo] at g2
    obtain ⟨_, g3⟩ := guard_ok g2
    refine .inr ⟨⟨sub _ _ qd, by rw [hlen]; exact hlt⟩, P (i + 1), fun H' p' => ⟨kvs.length - (i + 1), by omega, rfl, p'⟩, fun x H3 y => ?_⟩
    obtain ⟨T, k, v, hk, rfl, nT0, rfl⟩ := y
    have ne : Dd ≠ T := fun z => by subst z; rw [upd_same] at nT0; cases nT0
    have nT : Hs T = none := by rw [upd_ne (fun z => ne z.symm)] at nT0; exact nT0
    have hit : (itemsD kvs)[i] = D.wtu [kvs[i].1, kvs[i].2] := by simp [itemsD]
    obtain ⟨hd3, e3, r3⟩ := hd2.newW nT (kvs_item (ρ' := ρ2) (H' := Hs) hint q2 (List.getElem?_eq_getElem hlt) hk)
    have nD3 : upd Hs T (.tup [kV k, v]) Dd = none := by rw [upd_ne ne]; exact nDs
    obtain ⟨Hs3, hHs3⟩ : ∃ Hs3, Hs3 = upd Hs T (.tup [kV k, v]) := ⟨_, rfl⟩
    rw [← hHs3] at hd3 e3 r3 nD3
    rw [upd_comm ne, ← hHs3]
    have sub3 : ∀ b o, Hs3 b = some o → upd Hs3 Dd (.lst acc) b = some o := fun b o q => by rw [upd_ne (ne_of_none q nD3)]; exact q
    obtain ⟨lc, hlc, g4⟩ := need_ok g3
    rw [hit] at hlc
    have rw0 : RelL K ρ2 (wipe σ vs) Hs3 (wipeL (plnL loc) vs) := (pln_rel (rl.ext eL)).wipe vs
    refine hm.run ρ2 (wipe σ vs) Hs3 _ _ _ _ lc _ sub3 rw0 r3 hlc fun σ2 rl2 hw => ⟨(hw vs his).trans ?_, ?_⟩
    · apply List.ext_getElem?
      intro j
      rw [wipe_at, wipe_at]
      by_cases hj : j ∈ vs
      · rw [if_pos hj, if_pos hj]
        cases σ[j]? <;> rfl
      · rw [if_neg hj]
    refine ⟨Dd, acc, upd_same, fun od => ?_⟩
    rw [upd_upd]
    obtain ⟨hdM, eM⟩ := hd3.fresh (o := hidL od acc) nD3
    obtain ⟨b, S3, hb, g6⟩ := bindN_ok g4
    refine ⟨ρ2, lc, S2, rl2.ext eM, hdM, ?_⟩
    rw [hb]
    intro ρ3 H3 b' hd4 e4 rb
    have rb : b = b' := rb
    subst rb
    obtain ⟨e5, q5, n5⟩ := shed_ext nD3 npD e4
    have hd5 := shed_held q5 dark_frz n5 hd4
    refine ⟨q5, ?_⟩
    rw [← upd_del (H := H3)]
    cases b with
    | false =>
      rw [if_neg Bool.false_ne_true] at g6 ⊢
      exact ⟨hlt, ρ3, del H3 Dd, S3, acc, dacc, rfl, del_self, n5, hd5, (e2.trans e3).trans e5, (ra.ext e3).ext e5, g6⟩
    | true =>
      rw [if_pos rfl] at g6 ⊢
      refine ⟨Dd, acc, upd_same, fun od2 => ?_⟩
      rw [upd_upd]
      obtain ⟨hdN, eN⟩ := hd5.fresh (o := hidL od2 acc) del_self
      obtain ⟨y, S4, hy, g8⟩ := bindN_ok g6
      refine ⟨ρ3, lc, S3, ((rl2.ext e5).ext eN), hdN, ?_⟩
      rw [hy]
      intro ρ4 H4 v hd6 e6 ry
      obtain ⟨e7, q7, n7⟩ := shed_ext del_self n5 e6
      have hd7 := shed_held q7 dark_frz n7 hd6
      have gs := guard_ok g8
      refine ⟨q7, acc, upd_same, by rw [(ra.length)]; exact small_lt gs.1, hlt, ρ4, del H4 Dd, S4, acc ++ [v], dacc ++ [y], ?_, del_self, n7, hd7, ((e2.trans e3).trans e5).trans e7, ((((ra.ext e3).ext e5).ext e7)).append (IsL.cons (shed_is q7 dark_frz ry) IsL.nil), gs.2⟩
      rw [upd_upd, upd_del]
  · have hi' : i = kvs.length := by omega
    subst hi'
    rw [List.drop_of_length_le (by rw [hil]; exact Nat.le_refl _), lcGo] at g2
    obtain ⟨_, g3⟩ := guard_ok g2
    cases g3
    refine .inl ⟨⟨sub _ _ qd, by rw [hlen]; exact Nat.le_refl _⟩, o', .dK ks', sub _ _ qd, ?_⟩
    have ka : ∀ a o, H1 a = some o → Hs a = some o := fun a o q => (e2.keep a o List.not_mem_nil q).2
    obtain ⟨hA, eA⟩ := held_all hd1 ka
    obtain ⟨hB, eB, rB⟩ := hA.newL (p := Dd) (ds := ds) (vs := acc) nDs (isL_intD hds ra)
    obtain ⟨hC, eC⟩ := hB.write (o := .dK ks') (c := .dct kvs) hρ1 ⟨ks', upd_same, (((q2.ext eA).ext eB).ext (Held.ext_write (List.mem_of_getElem? hρ1)))⟩
    rw [List.set_set, show S.set l (.dct kvs) = S from List.ext_getElem? fun j => by
      by_cases hj : l = j
      · subst hj; rw [List.getElem?_set_self (List.getElem?_eq_some_iff.mp hS).1, hS]
      · rw [List.getElem?_set_ne hj]] at hC
    exact gg ρ1 _ _ hC ((((eL.trans e1).trans eA).trans eB).trans eC) (rB.ext eC)
variable {elt e : Expr} {elts : List Expr} {kk : Nat} {tpos apos cpos : Pos} {ifs : List Expr} {scope : Scope} {own : List (Str × Nat)} {pos : Pos}
theorem pm_lcIt (hc : X.calm = true) (hN : X.N.Nodup) (ho : PE X e (tE X.K WF mo)) (ok : BlkOk X.N X.env.scope scope own) (hm : TgM X.K g mg is) (his : ∀ i ∈ is, i ∈ own.map (·.2))
    (hg : ∀ (s : Shared) (H : Hp) (C : Addr) (cl : List (Str × Addr)) (fp : List Addr), PG (X.blk s H scope (compEnvC scope cl C X.env) fp) (.Tuple elts kk tpos) g)
    (ht : ∀ (s : Shared) (H : Hp) (C : Addr) (cl : List (Str × Addr)) (fp : List Addr), PTs (X.blk s H scope (compEnvC scope cl C X.env) fp) ifs (tHidT (tT X.K WF mt)))
    (he : ∀ (s : Shared) (H : Hp) (C : Addr) (cl : List (Str × Addr)) (fp : List Addr), PE (X.blk s H scope (compEnvC scope cl C X.env) fp) elt (tE X.K WF me))
    (hbase : attributeBase e "items" X.env (eval e X.env) = eval e X.env := by rfl) (hline : (apos.endLine == cpos.line) = true := by rfl)
    (hs : ∀ x, foldedSetIterable (.Call (.Attribute e "items" apos) [] [] cpos) X.env x = pure x := by intro _; rfl) :
    PE X (.ListComp elt [⟨.Tuple elts kk tpos, .Call (.Attribute e "items" apos) [] [] cpos, ifs, 0⟩] scope pos) (tE X.K W (mLcIt mo mg mt me (own.map (·.2)))) :=
  (pe_lockX (pe_lc hc hN (pi_items ho hbase hline) ok hg ht (fun s H C cl fp => pe_hid (he s H C cl fp)) hs)).md fun σ H Q h => lcIt_md hm his h
end
end Md

set_option Elab.async false
set_option linter.all false
set_option maxRecDepth 100000
set_option maxHeartbeats 2000000
/-! Md38: a generator's body up to its first yield. -/
namespace Md
open PySem PySem.Spec PyProof.Rows L2 GenW
/-- the first item is handed out; the generator is not woken again -/
def Y1 (X : Cx) (yl : VK) : Protocol := fun _ _ v s _ => ∃ x σ H, RelV x v ∧ Inv X [] σ H s ∧ yl x H
structure C1 (X : Cx) (A : Around) (c : Code) (fs : List Frame) (gd : Bool → Bool) : Prop where
  over : A.over c fs = X.A
  split : splitAtGen fs = none
  guard : fs.any Frame.guarded = false
  gd : gd false = false
def SP1 (X : Cx) (D : Ends) (f : Flow) (s : Shared) : Prop := match f with
  | .next => ∃ σ H, Inv X [] σ H s ∧ D.nx σ H
  | .brk => ∃ σ H, Inv X [] σ H s ∧ D.bk σ H
  | .cont => ∃ σ H, Inv X [] σ H s ∧ D.ct σ H
  | .ret _ => False
structure K1 (X : Cx) (A : Around) (R : GenEnd) (yl : VK) (s₀ : Shared) (c : Code) (fs : List Frame) (K : Flow → Sem PySem.Fin) (J : Value → Sem PySem.Fin) (D : Ends) : Prop where
  ok : ∀ (s : Shared) (f : Flow), SP1 X D f s → Seg (model X.prog X.w) A R (Y1 X yl) 1 s₀ c (K f) fs s
  exc : ∀ (e : Value) (s : Shared), X.xe e s → Seg (model X.prog X.w) A R (Y1 X yl) 1 s₀ c (J e) fs s
structure G1 (X : Cx) (st : Stmt) (t : TS) : Prop where
  run : ∀ (A : Around) (R : GenEnd) (s₀ : Shared) (c : Code) (fs : List Frame) (K : Flow → Sem PySem.Fin) (J : Value → Sem PySem.Fin) (gd : Bool → Bool) (lv : List Value → List Value) (s : Shared) (σ : L2.St) (H : Hp) (D : Ends),
    C1 X A c fs gd → K1 X A R D.rt s₀ c fs K J D → Inv X [] σ H s → t D σ H → Seg (model X.prog X.w) A R (Y1 X D.rt) 1 s₀ c ((exec st X.env).wrap K J gd lv) fs s
structure G1s (X : Cx) (st : List Stmt) (t : TS) : Prop where
  run : ∀ (A : Around) (R : GenEnd) (s₀ : Shared) (c : Code) (fs : List Frame) (K : Flow → Sem PySem.Fin) (J : Value → Sem PySem.Fin) (gd : Bool → Bool) (lv : List Value → List Value) (s : Shared) (σ : L2.St) (H : Hp) (D : Ends),
    C1 X A c fs gd → K1 X A R D.rt s₀ c fs K J D → Inv X [] σ H s → t D σ H → Seg (model X.prog X.w) A R (Y1 X D.rt) 1 s₀ c ((execs st X.env).wrap K J gd lv) fs s
def noRt (o : OutS) : OutS := match o with
  | .rt _ _ => .no
  | o => o
@[simp] theorem noRt_nx (l : Md.Loc) (S : Sto) : noRt (.nx l S) = .nx l S := rfl
def sPl (ms : SD) : SD := fun loc S => noRt (ms loc S)
@[simp] theorem r_pl {ms : SD} {loc : Md.Loc} {S : Sto} : sPl ms loc S = noRt (ms loc S) := rfl
section
variable {X : Cx} {W : WX} {e : Expr} {st : Stmt} {sts a b : List Stmt} {me : ED} {mt : BD} {ms mr : SD} {pos yp : Pos}
theorem g1_pl (h : PS X st (tS X.K W ms)) : G1 X st (tS X.K W (sPl ms)) := by
  refine ⟨fun A R s₀ c fs K J gd lv s σ H D g k I ht => ?_⟩
  refine seg_wrap ?_
  rw [g.over]
  obtain ⟨ρ, loc, S, rl, hd, gg⟩ := ht
  refine wpAny_mono (h.run [] s σ H { D with rt := fun _ _ => False } I ⟨ρ, loc, S, rl, hd, ?_⟩) (fun f s' hs => k.ok s' f ?_) fun x s' hx => k.exc x s' hx
  · unfold sPl at gg
    cases ho : ms loc S with
    | rt d S' => rw [ho] at gg; exact gg.elim
    | nx l S' => rw [ho] at gg; exact gg
    | bk l S' => rw [ho] at gg; exact gg
    | ct l S' => rw [ho] at gg; exact gg
    | ex x l S' => rw [ho] at gg; exact gg
    | no => rw [ho] at gg; exact gg
  · cases f with
    | next => exact hs
    | brk => exact hs
    | cont => exact hs
    | ret u => obtain ⟨v, _, _, _, _, q⟩ := hs; exact q
theorem g1_yield (he : PE X e (tE X.K W me)) (hco : X.env.scope.isCoroutine = false := by rfl) (hi : interactive X.env = false := by rfl) : G1 X (.Expr (.Yield (some e) yp) pos) (tS X.K W (sRet me)) := by
  refine ⟨fun A R s₀ c fs K J gd lv s σ H D g k I ht => ?_⟩
  obtain ⟨ρ, loc, S, rl, hd, gg⟩ := ht
  refine seg_Expr_Yield g.split g.gd g.guard ?_ hco hi
  rw [g.over]
  refine wpAny_mono (he.run [] s σ H D.rt I ⟨ρ, loc, S, rl, hd, GoodS.thn rl gg fun d S1 ρ1 H1 x hd1 e1 r1 g1 => g1 ρ1 H1 x hd1 Ext.refl r1⟩) (fun v s' hv => ?_) fun x s' hx => k.exc x s' hx
  obtain ⟨x, H1, I1, rv, q⟩ := hv
  intro kap _
  exact ⟨x, σ, H1, rv, I1, q⟩
theorem g1s_nil : G1s X [] (tS X.K W sNil) := by
  refine ⟨fun A R s₀ c fs K J gd lv s σ H D g k I ht => ?_⟩
  obtain ⟨ρ, loc, S, rl, hd, gg⟩ := ht
  exact seg_execs_nil (k.ok s .next ⟨σ, H, I, gg ρ H σ hd Ext.refl rl⟩)
theorem g1s_cons (h1 : G1 X st (tS X.K W ms)) (h2 : G1s X sts (tS X.K W mr)) : G1s X (st :: sts) (tS X.K W (sCons ms mr)) := by
  refine ⟨fun A R s₀ c fs K J gd lv s σ H D g k I ht => ?_⟩
  obtain ⟨ρ, loc, S, rl, hd, gg⟩ := ht
  refine seg_execs_cons ?_
  refine h1.run A R s₀ c fs _ J gd lv s σ H { D with nx := tS X.K W mr D } g ⟨fun s' f hs => ?_, k.exc⟩ I ⟨ρ, loc, S, rl, hd, GoodS.bind gg⟩
  cases f with
  | next =>
    obtain ⟨σ', H', I', q⟩ := hs
    exact h2.run A R s₀ c fs K J gd lv s' σ' H' D g k I' q
  | brk => exact k.ok s' .brk hs
  | cont => exact k.ok s' .cont hs
  | ret u => exact hs.elim
theorem g1_if (hc : PT X e (tT X.K W mt)) (ha : G1s X a (tS X.K W ms)) (hb : G1s X b (tS X.K W mr)) : G1 X (.If e a b pos) (tS X.K W (sIf mt ms mr)) := by
  refine ⟨fun A R s₀ c fs K J gd lv s σ H D g k I ht => ?_⟩
  obtain ⟨ρ, loc, S, rl, hd, gg⟩ := ht
  rw [exec_If]
  show Seg _ _ _ _ 1 s₀ c (.at pos fun _ => (isTrue e X.env (eval e X.env) >>= fun b' => if b' then execs a X.env else execs b X.env).wrap K J gd lv) fs s
  refine seg_at ?_
  refine seg_bind_wrap ?_
  rw [g.over]
  refine wpAny_mono (hc.run [] s σ H (fun k' H1 => tS X.K W (if k' then ms else mr) D σ H1) I ⟨ρ, loc, S, rl, hd, GoodS.thn rl gg fun k' S1 ρ1 H1 x hd1 e1 r1 g1 => ?_⟩) (fun b' s' hb' => ?_) fun x s' hx => k.exc x s' hx
  · have r1 : k' = x := r1
    subst r1
    refine ⟨ρ1, loc, S1, rl.ext e1, hd1, ?_⟩
    cases k' <;> exact g1
  · obtain ⟨H2, I2, q2⟩ := hb'
    cases b' with
    | true =>
      rw [if_pos rfl] at q2 ⊢
      exact ha.run A R s₀ c fs K J gd lv s' σ H2 D g k I2 q2
    | false =>
      rw [if_neg Bool.false_ne_true] at q2 ⊢
      exact hb.run A R s₀ c fs K J gd lv s' σ H2 D g k I2 q2
theorem c1_loop {A : Around} {c c' : Code} {fs : List Frame} {gd : Bool → Bool} {k : Result → Sem PySem.Fin} {l kp : List Value} {p : Pos} (g : C1 X A c fs gd) (hw : c'.weight = 0) (hu : c'.cUnits = 0) :
    C1 X A c' (.ret k none (gd false) l c p kp :: fs) id where
  over := (over_loop hw hu).trans g.over
  split := by
    show (splitAtGen fs).map _ = none
    rw [g.split]; rfl
  guard := by
    show (gd false || fs.any Frame.guarded) = false
    rw [g.gd, g.guard]; rfl
  gd := rfl
theorem seg_back1 {A : Around} {R : GenEnd} {yl : VK} {s₀ : Shared} {c : Code} {fs : List Frame} {K : Flow → Sem PySem.Fin} {J : Value → Sem PySem.Fin} {gd : Bool → Bool} {lv : List Value → List Value} {D : Ends} {s : Shared} {e : Value}
    (g : C1 X A c fs gd) (k : K1 X A R yl s₀ c fs K J D) (h : cameBackBy (model X.prog X.w) X.A X.env X.xe e s) :
    Seg (model X.prog X.w) A R (Y1 X yl) 1 s₀ c (((Sem.raise e : Sem Flow).onRaise (cameBack X.env)).wrap K J gd lv) fs s := by
  show Seg _ _ _ _ _ _ _ (((cameBack X.env e).bind fun _ => (Sem.raise e : Sem Flow)).wrap K J gd lv) _ _
  rw [Sem.bind_eq_wrap, Sem.wrap_wrap]
  refine seg_wrap ?_
  rw [g.over]
  exact wpAny_mono h (fun _ s' hx => k.exc e s' hx) fun x s' hx => k.exc x s' hx
theorem g1_while (n : Nat) {test : Expr} {body : List Stmt} (hp : PassesOwn (model X.prog X.w) X.A X.env X.xe) (hc : PT X test (tT X.K W mt)) (hb : G1s X body (tS X.K W ms)) : G1 X (.While test body [] pos) (tS X.K W (sWhile mt ms n)) := by
  refine ⟨fun A R s₀ c fs K J gd lv s σ H D g k I ht => ?_⟩
  refine seg_While fun p => ?_
  have gl := fun (kk : Result → Sem PySem.Fin) => c1_loop (k := kk) (c' := .whileLoop test body [] X.env) (l := lv []) (kp := []) (p := p) g rfl rfl
  have loop : ∀ (m : Nat) (s : Shared) (σ : L2.St) (H : Hp), tS X.K W (sWhile mt ms m) D σ H → Inv X [] σ H s →
      Seg (model X.prog X.w) A R (Y1 X D.rt) 1 s₀ (.whileLoop test body [] X.env) ((model X.prog X.w).den (.whileLoop test body [] X.env))
        (.ret (fun r => ((match r with | .ok f => (.pure f : Sem Flow) | .error e => .raise e).onRaise (cameBack X.env)).wrap K J gd lv) none (gd false) (lv []) c p [] :: fs) s := by
    intro m
    induction m with
    | zero => intro s σ H ⟨ρ, loc, S, rl, hd, gg⟩ I; exact gg.elim
    | succ m ih =>
      intro s σ H ⟨ρ, loc, S, rl, hd, gg⟩ I
      have ee : ∀ (x : Value) (s' : Shared), X.xe x s' → Seg (model X.prog X.w) A R (Y1 X D.rt) 1 s₀ (.whileLoop test body [] X.env)
          ((do noteFrame x X.env; theTreesLotGoes x : Sem Unit).wrap (fun _ => .raise x) .raise id id)
          (.ret (fun r => ((match r with | .ok f => (.pure f : Sem Flow) | .error e => .raise e).onRaise (cameBack X.env)).wrap K J gd lv) none (gd false) (lv []) c p [] :: fs) s' := fun x s' hx => by
        refine seg_wrap ?_
        rw [(gl _).over]
        refine wpAny_bind (wpAny_mono (hp x s' hx) (fun _ s'' hcb => wpAny_theTreesLotGoes ?_) fun y s'' hcb => ?_)
        · exact seg_leaf (.error x) (seg_back1 g k hcb)
        · exact seg_leaf (.error y) (seg_back1 g k hcb)
      refine seg_whileLoop ?_
      rw [(gl _).over]
      refine wpAny_mono (hc.run [] s σ H (fun k' H1 => if k' = true then tS X.K W ms { D with nx := tS X.K W (sWhile mt ms m) D, ct := tS X.K W (sWhile mt ms m) D, bk := D.nx } σ H1 else D.nx σ H1) I ⟨ρ, loc, S, rl, hd, GoodS.thn rl gg fun k' S1 ρ1 H1 x hd1 e1 r1 g1 => ?_⟩) (fun b s' hb' => ?_) fun x s' hx => ee x s' hx
      · have r1 : k' = x := r1
        subst r1
        cases k' with
        | true =>
          rw [if_pos rfl] at g1 ⊢
          exact ⟨ρ1, loc, S1, rl.ext e1, hd1, GoodS.loop g1 fun ρ' l S' σ' H' r' hd' _ g' => ⟨ρ', l, S', r', hd', g'⟩⟩
        | false =>
          rw [if_neg Bool.false_ne_true] at g1 ⊢
          exact g1 ρ1 H1 σ hd1 Ext.refl (rl.ext e1)
      obtain ⟨H2, I2, q2⟩ := hb'
      cases b with
      | true =>
        rw [if_pos rfl] at q2 ⊢
        refine hb.run A R s₀ _ _ _ _ id id s' σ H2 { D with nx := tS X.K W (sWhile mt ms m) D, ct := tS X.K W (sWhile mt ms m) D, bk := D.nx } (gl _) ⟨fun s3 f hs => ?_, fun x s3 hx => ee x s3 hx⟩ I2 q2
        cases f with
        | next =>
          obtain ⟨σ3, H3, I3, n3⟩ := hs
          exact seg_again rfl (ih s3 σ3 H3 n3 I3)
        | cont =>
          obtain ⟨σ3, H3, I3, n3⟩ := hs
          exact seg_again rfl (ih s3 σ3 H3 n3 I3)
        | brk => exact seg_leaf (.ok .next) (k.ok s3 .next hs)
        | ret v => exact hs.elim
      | false =>
        rw [if_neg Bool.false_ne_true] at q2 ⊢
        refine seg_execs_nil ?_
        exact seg_leaf (.ok .next) (k.ok s' .next ⟨σ, H2, I2, q2⟩)
  exact loop n s σ H ht I
end
end Md

set_option Elab.async false
set_option linter.all false
set_option maxRecDepth 100000
set_option maxHeartbeats 2000000
/-! Md39: a generator method called; the first item of a for over it. -/
namespace Md
open PySem PySem.Spec PyProof.Rows L2 GenW
def REnd1 (P : Program) (w : World) (outer : List Env) (H : Hp) (s : Shared) (a : Addr) (g : Nat) (Nd : Hp → Prop) (E : XK) : GenEnd := fun _ _ r s1 =>
  ((r = .ok (.ret .none) ∨ r = .ok .next) ∧ ∃ H', s1.os = s.os ∧ AllBare s1.gens ∧ Un (frs outer) [] H H' s.heap s1.heap ∧ HOk P w H' s1.heap ∧ Nd H') ∨ ∃ e, r = .error e ∧ L2.CX P w outer H s E e s1 ∧ s1.heap.IsGen a g
def YItem1 (P : Program) (w : World) (outer : List Env) (H : Hp) (s : Shared) (Yd : VK) : Protocol := fun _ _ v s1 _ =>
  ∃ x H', RelV x v ∧ s1.os = s.os ∧ AllBare s1.gens ∧ Un (frs outer) [] H H' s.heap s1.heap ∧ HOk P w H' s1.heap ∧ Yd x H'
def Made1 (P : Program) (w : World) (k : Nat) (outer : List Env) (H : Hp) (s : Shared) (Yd : VK) (Nd : Hp → Prop) (E : XK) (u : Value) (s' : Shared) : Prop :=
  ∃ (a : Addr) (g : Nat) (c : Code), u = .ref a ∧ s'.heap.IsGen a g ∧ s'.gens[g]? = some (.fresh c) ∧ s'.os = s.os ∧ AllBare s'.gens ∧ s'.heap.NoLimit ∧ (∀ b o, s.heap.get? b = some o → s'.heap.get? b = some o) ∧
    ∀ (A : Around) (s2 : Shared), Ard k A → A.frames = some outer → (∀ b o, s'.heap.get? b = some o → s2.heap.get? b = some o) → s2.os = s.os → AllBare s2.gens →
      Seg (model P w) A (REnd1 P w outer H s a g Nd E) (YItem1 P w outer H s Yd) 1 s2 c ((model P w).den c) [] s2
/-- the first item, or none -/
def GoodG (K : PySem.W.Frag) (ρ : List Addr) (H : Hp) (Yd : VK) (Nd : Hp → Prop) : Out (Option D) → Prop
  | .ok (some d) S => ∀ ρ' H' v, Held K ρ' H' S → Ext ρ H ρ' H' → Is K ρ' H' d v → Yd v H'
  | .ok none S => ∀ ρ' H', Held K ρ' H' S → Ext ρ H ρ' H' → Nd H'
  | _ => False
def spG1 (K : PySem.W.Frag) (n : Nat) (m : List D → Sto → Out (Option D)) (vs : List V) (H : Hp) (Yd : VK) (Nd : Hp → Prop) : Prop := ∃ ρ ds S, ds.length = n ∧ IsL K ρ H ds vs ∧ Held K ρ H S ∧ GoodG K ρ H Yd Nd (m ds S)
def mGen1 (n p : Nat) (ms : SD) : List D → Sto → Out (Option D) := fun ds S => if ds.length = p then (match ms (startL n ds) S with
  | .rt d S' => .ok (some d) S'
  | .nx _ S' => .ok none S'
  | _ => .no) else .no
structure Gn1 (P : Program) (w : World) (K : PySem.W.Frag) (mg : Str → Option Value) (base : Heap) (k : Nat) (f : Addr) (fd : FuncData) (ps : List Str) (m : List D → Sto → Out (Option D)) : Prop where
  run : ∀ (A : Around) (outer : List Env) (s : Shared) (H : Hp) (args : Args) (us : List Value) (vs : List V) (Yd : VK) (Nd : Hp → Prop), Room k A → A.guards = some [] → Env0 P w K mg base A outer s H → BindsTo s fd args (ps.zip us) → Vals vs us → spG1 K ps.length m vs H Yd Nd →
    codeAny (model P w) A (.call (.ref f) args) (fun r s' => match r with | .ok (.ret u) => Made1 P w k outer H s Yd Nd (fun _ _ _ => False) u s' | _ => False) s
/-- the context of a generator's body -/
abbrev gcxG (P : Program) (w : World) (K : PySem.W.Frag) (mg : Str → Option Value) (base : Heap) (N : List Str) (qual : Str) (st : Stmt) (f : Addr) (cdv : Value) (A : Around) (outer : List Env) (s : Shared) (H : Hp) (E : XK) (pn : List (Addr × Obj)) : Cx :=
  gcxOf P w K mg base N qual (defScope st) f cdv A outer s H E pn
theorem gn1 {P : Program} {w : World} {K : PySem.W.Frag} {mg : Str → Option Value} {base : Heap} {k : Nat} {x qual : Str} {st : Stmt} {f : Addr} {fd : FuncData} {N ps : List Str} {m : List D → Sto → Out (Option D)} {ms : SD}
    (F : Fun K x qual st f fd) (S : GScope N ps (defScope st)) (hm : m = mGen1 N.length ps.length ms)
    (hbody : ∀ (cdv : Value) (A : Around) (outer : List Env) (s : Shared) (H : Hp) (pn : List (Addr × Obj)), Ard k (gcxG P w K mg base N qual st f cdv A outer s H (fun _ _ _ => False) pn).A →
      G1s (gcxG P w K mg base N qual st f cdv A outer s H (fun _ _ _ => False) pn) (defBody st) (tS K (WK fun _ _ _ => False) ms)) : Gn1 P w K mg base (k + 1) f fd ps m := by
  obtain ⟨oc, od, kV, doc, pm, an, cdv, ct, osl, rfl, lk, hcd⟩ := F.ex
  refine ⟨fun A outer s H args us vs Yd Nd hr hgd e0 hb r hsp => ?_⟩
  obtain ⟨ρ, ds, S0, hlen, his, hhd, gg⟩ := hsp
  have hl : vs.length = ps.length := his.length.trans hlen
  have KX : K.In s.heap := e0.mod.kin.keeps fun b o e => (e0.bs b o e).1
  have lim : s.heap.NoLimit := e0.mod.nolimit.keeps fun b o e => (e0.bs b o e).1
  have hkind : ∀ y ∈ ps.zip us, (defScope st).names.lookup y.1 = some .local ∨ ((defScope st).names.lookup y.1 = some .cell ∧ ((cellsFrom (s.heap.objs.size + 1) (defScope st).names []).lookup y.1).isSome = true) := fun ⟨n, v⟩ hy => by
    rcases S.par n (List.of_mem_zip hy).1 with q | q
    · exact .inl q
    · exact .inr ⟨q, PySem.W.cellsFrom_some _ _ _ (.inl q)⟩
  refine codeAny_call_generator hr.depth (KX _ _ lk) rfl S.co S.gen rfl (PySem.W.codeRec_of KX hcd) (hb _ _ _ _ ?_)
  refine wpAny_newFunctionEnv_cells S.kind hkind fun env he s1 x => ?_
  subst he
  have lim1 : s1.heap.NoLimit := lim.keeps x.toInCall.keep
  refine ⟨lim1, ?_⟩
  obtain ⟨h1, tk, es1, hk1⟩ := x.done
  have os1 : s1.os = s.os := by rw [es1]
  have gen1 : s1.gens = s.gens := by rw [es1]
  have lt1 : s.heap.objs.size < s1.heap.objs.size := x.toInCall.ns.lt
  have sz1 : s.heap.objs.size ≤ s1.heap.objs.size := Nat.le_of_lt lt1
  have kp1 : ∀ b o, s.heap.get? b = some o → s1.heap.get? b = some o := x.toInCall.keep
  have main : ∀ (go : Obj) (nm qn : Value) (tk2 : Nat), go.cls = .type "generator" → go.data = .fields #[.int s1.gens.size 0, nm, qn] → go.slots = #[] → (∀ h : Heap, (h.push go).get? h.objs.size = some go) →
      Made1 P w (k + 1) outer H s Yd Nd (fun _ _ _ => False) (.ref s1.heap.objs.size) { s1 with gens := s1.gens.push (.fresh (.func (defBody st) (envOfC qual (defScope st) s.heap.objs.size f cdv))), toks := tk2, heap := s1.heap.push go } := by
    intro go nm qn tk2 hgc hgd0 hgs hgp
    have hgen : ∀ h : Heap, h.get? s1.heap.objs.size = some go → h.IsGen s1.heap.objs.size s1.gens.size := fun h e => ⟨go, nm, qn, e, hgc, hgd0, hgs⟩
    have hpushed : (s1.heap.push go).get? s1.heap.objs.size = some go := hgp _
    refine ⟨s1.heap.objs.size, s1.gens.size, _, rfl, hgen _ hpushed, Array.getElem?_push_size .., os1, ?_, lim1.keeps fun b o e => Heap.get?_push_of_some _ e, fun b o e => Heap.get?_push_of_some _ (kp1 b o e), ?_⟩
    · exact AllBare.push (by rw [gen1]; exact e0.bare) rfl
    intro Aw s2 hrw hfr hk2 hos hba
    have e0w : Env0 P w K mg base Aw outer s H := ⟨hfr, e0.mod, e0.bs, e0.bsz, e0.funs, e0.frf, e0.hok, e0.bare⟩
    have ht := hbody cdv Aw outer s H [(s1.heap.objs.size, go)] ⟨hrw.room.deeper _, hrw.grd⟩
    have I1 : Inv (gcxOf P w K mg base N qual (defScope st) f cdv Aw outer s H (fun _ _ _ => False) []) [] (start N vs) H s1 := inv_startG S hrw.room.hd e0w hl r x
    have kp2 : ∀ b o, s1.heap.get? b = some o → s2.heap.get? b = some o := fun b o e => hk2 b o (Heap.get?_push_of_some _ e)
    have I2 : Inv (gcxOf P w K mg base N qual (defScope st) f cdv Aw outer s H (fun _ _ _ => False) []) [] (start N vs) H s2 :=
      I1.call' (ch := []) (hos.trans os1.symm) (Un.kept kp2) (I1.hok.kept kp2) hba fun b z => by simp at z
    have hea : s2.heap.get? s1.heap.objs.size = some go := hk2 s1.heap.objs.size go hpushed
    have hgd : ∀ v, go.data ≠ .cell v := fun v q => by rw [hgd0] at q; cases q
    have young : ∀ b, s1.heap.objs.size ≤ b → H b = none ∧ b ≠ s.heap.objs.size ∧ b ∉ frs outer ∧ s.heap.objs.size ≤ b ∧ ∀ y c, (cellsFrom (s.heap.objs.size + 1) (defScope st).names []).lookup y = some c → c ≠ b := fun b hb => by
      refine ⟨I1.hok.fresh hb, Nat.ne_of_gt (Nat.lt_of_lt_of_le lt1 hb), I1.nofs hb, Nat.le_trans sz1 hb, fun y c e z => ?_⟩
      obtain ⟨v, ob, ho, _⟩ := I1.cell y c e
      have := Heap.lt_size ho
      rw [z] at this
      exact absurd (Nat.lt_of_lt_of_le this hb) (Nat.lt_irrefl _)
    have hI : Inv (gcxG P w K mg base N qual st f cdv Aw outer s H (fun _ _ _ => False) [(s1.heap.objs.size, go)]) [] (start N vs) H s2 := by
      refine Inv.pinnedG I2 fun p hp => ?_
      rw [List.append_nil] at hp
      rw [List.mem_singleton.mp hp]
      obtain ⟨y1, y2, y3, _, _⟩ := young s1.heap.objs.size (Nat.le_refl _)
      exact ⟨hea, y1, y2, y3, hgd⟩
    have gs : GoodS K (WK fun _ _ _ => False) { nx := fun _ H' => Nd H', rt := Yd } ρ H (ms (startL N.length ds) S0) := by
      rw [hm] at gg
      unfold mGen1 at gg
      rw [if_pos hlen] at gg
      cases ho : ms (startL N.length ds) S0 with
      | nx l S' => rw [ho] at gg; exact fun ρ' H' σ' hd e _ => gg ρ' H' hd e
      | rt d S' => rw [ho] at gg; exact gg
      | bk l S' => rw [ho] at gg; exact gg.elim
      | ct l S' => rw [ho] at gg; exact gg.elim
      | ex x l S' => rw [ho] at gg; exact gg.elim
      | no => rw [ho] at gg; exact gg.elim
    refine seg_func ?_
    refine seg_imp (R := fun _ _ r s1' => match r with
        | .ok (.ret u) => u = Value.none ∧ ∃ σ' H', Inv (gcxG P w K mg base N qual st f cdv Aw outer s H (fun _ _ _ => False) [(s1.heap.objs.size, go)]) [] σ' H' s1' ∧ Nd H'
        | .ok _ => False
        | .error e => L2.CX P w outer H s (fun _ _ _ => False) e s1' ∧ ∀ p ∈ [(s1.heap.objs.size, go)], s1'.heap.get? p.1 = some p.2)
      (Y := Y1 (gcxG P w K mg base N qual st f cdv Aw outer s H (fun _ _ _ => False) [(s1.heap.objs.size, go)]) Yd) (fun n s₀ r s1' hR => ?_) (fun n s₀ v s1' kap kap' hkk hY => ?_) 1 ?_
    · cases r with
      | error e =>
        obtain ⟨q1, q2⟩ := hR
        exact .inr ⟨e, rfl, q1, hgen _ (q2 (s1.heap.objs.size, go) (List.mem_singleton.mpr rfl))⟩
      | ok fl =>
        cases fl with
        | next => exact False.elim hR
        | brk => exact False.elim hR
        | cont => exact False.elim hR
        | ret u =>
          obtain ⟨eu, σ', H', J, hQ⟩ := hR
          subst eu
          exact .inl ⟨.inl rfl, H', J.os, J.bare, J.base, J.hok, hQ⟩
    · obtain ⟨xx, σ', H', h2, J, h3⟩ := hY
      exact ⟨xx, H', h2, J.os, J.bare, J.base, J.hok, h3⟩
    · refine ht.run Aw _ s2 _ [] _ _ id id s2 (start N vs) H { nx := fun _ H' => Nd H', rt := Yd } ⟨over_func, rfl, rfl, rfl⟩ ⟨fun s' fl hs => ?_, fun e s' hx => ?_⟩ hI ⟨ρ, _, S0, start_rel his, hhd, gs⟩
      · cases fl with
        | next =>
          obtain ⟨σ', H', J, hQ⟩ := hs
          exact seg_end (.ok (.ret .none)) ⟨rfl, σ', H', J, hQ⟩
        | brk => obtain ⟨_, _, _, q⟩ := hs; exact False.elim q
        | cont => obtain ⟨_, _, _, q⟩ := hs; exact False.elim q
        | ret u => exact hs.elim
      · refine seg_wrap ?_
        rw [over_func]
        refine wpAny_mono (show wpAny (model P w) (Aw.deeper (envOfC qual (defScope st) s.heap.objs.size f cdv)) (leaving (envOfC qual (defScope st) s.heap.objs.size f cdv) e) (fun _ s'' => L2.CX P w outer H s (fun _ _ _ => False) e s'' ∧ ∀ p ∈ [(s1.heap.objs.size, go)], s''.heap.get? p.1 = some p.2) (fun _ _ => False) s' from hx) (fun _ s'' q => ?_) fun _ s'' q => q.elim
        exact seg_end (.error e) q
  exact main _ _ _ _ rfl rfl rfl fun h => Heap.get?_push_size _ rfl
/-- a generator method of a class by its name -/
structure GenAt (P : Program) (w : World) (K : PySem.W.Frag) (mg : Str → Option Value) (base : Heap) (cls q : Str) (k : Nat) (ps : List Str) (m : List D → Sto → Out (Option D)) : Prop where
  ex : ∃ (C f : Addr) (fd : FuncData), ClK K cls C ∧ Meth K C q f ∧ Gn1 P w K mg base k f fd ps m ∧ Binds K fd ps []
theorem genAt {P : Program} {w : World} {K : PySem.W.Frag} {mg : Str → Option Value} {base : Heap} {k : Nat} {cls q qual : Str} {st : Stmt} {N ps : List Str} {m : List D → Sto → Out (Option D)} {ms : SD}
    (F : MFun K cls q qual st ps) (S : GScope N ps (defScope st)) (hm : m = mGen1 N.length ps.length ms)
    (hbody : ∀ (f : Addr) (cdv : Value) (A : Around) (outer : List Env) (s : Shared) (H : Hp) (pn : List (Addr × Obj)), Ard k (gcxG P w K mg base N qual st f cdv A outer s H (fun _ _ _ => False) pn).A →
      G1s (gcxG P w K mg base N qual st f cdv A outer s H (fun _ _ _ => False) pn) (defBody st) (tS K (WK fun _ _ _ => False) ms)) : GenAt P w K mg base cls q (k + 1) ps m := by
  obtain ⟨C, f, fd, T, F, h1, h2⟩ := F.ex
  exact ⟨C, f, fd, T, h1, gn1 F S hm (hbody f), h2⟩
end Md

set_option Elab.async false
set_option linter.all false
set_option maxRecDepth 100000
set_option maxHeartbeats 2000000
/-! Md40: for x in o.m(): return x, o.m a generator. -/
namespace Md
open PySem PySem.Spec PyProof.Rows L2 GenW
def sFirst (cls q : Str) (m : List D → Sto → Out (Option D)) (mo : ED) : SD := fun loc S => (mo loc S).thn loc fun d S1 => needS (insOf S1 d) fun t => guardS (decide (t.2.1 = cls) && (t.2.2.lookup q).isNone) (match m [d] S1 with
  | .ok (some v) S2 => .rt v S2
  | .ok none S2 => .nx loc S2
  | _ => .no)
section
variable {X : Cx} {W : WX} {o : Expr} {mo : ED} {cls q x : Str} {ps : List Str} {m : List D → Sto → Out (Option D)} {k j i : Nat} {px px2 apos cpos rpos pos : Pos}
theorem pms_first {pl : Sem Bool} (T : GenAt X.prog X.w X.K X.mg X.base cls q k ps m) (hps : ps.length = 1) (hr : Ard j X.A) (hk : k + 2 ≤ j) (hp : PassesOwn (model X.prog X.w) X.A X.env X.xe) (ho : PE X o (tE X.K W mo))
    (hN : X.N.Nodup) (hi : X.N[i]? = some x) (hgt : PG X (.Name x px) (gName i)) (hv : PE X (.Name x px2) (tVar i))
    (ht : eval (.Call (.Attribute o q apos) [] [] cpos) X.env = (do
      let ov ← eval o X.env
      standAt apos.atName
      let (f, first) ← holding [ov] (getMethod ov q pl)
      callWith cpos f first (backTo cpos (starEach [] X.env)) (backToKw cpos (keywordEach [] X.env))) := by rfl)
    (hs : ∀ x, foldedSetIterable (.Call (.Attribute o q apos) [] [] cpos) X.env x = pure x := by intro _; rfl) :
    PS X (.For (.Name x px) (.Call (.Attribute o q apos) [] [] cpos) [.Return (some (.Name x px2)) rpos] [] pos) (tS X.K W (sFirst cls q m mo)) := by
  refine ⟨fun pins s σ H D I ⟨ρ, loc, S, rl, hd, g⟩ => ?_⟩
  refine wpAny_For ?_ hs
  refine PySem.W.methodCall_KW (pl := pl) (thn (ho.run pins s σ H (fun y H1 => ∃ ρ1 S1 l fs, Held X.K ρ1 H1 S1 ∧ RelL X.K ρ1 σ H1 loc ∧ Is X.K ρ1 H1 (.ref l) y ∧ insOf S1 (.ref l) = some (l, cls, fs) ∧ fs.lookup q = none ∧
      GoodS X.K W D ρ1 H1 (match m [.ref l] S1 with
        | .ok (some v) S2 => .rt v S2
        | .ok none S2 => .nx loc S2
        | _ => .no)) I ⟨ρ, loc, S, rl, hd, GoodS.thn rl g fun d S1 ρ1 H1 y hd1 e1 r1 g1 => by
        obtain ⟨⟨l, cls', fs⟩, h1, g2⟩ := GoodS.need g1
        obtain ⟨h2, g3⟩ := GoodS.guard g2
        rw [Bool.and_eq_true] at h2
        obtain ⟨h3, h4⟩ := h2
        have h3 : cls' = cls := of_decide_eq_true h3
        subst h3
        obtain ⟨rfl, _⟩ := insOf_at hd1 r1 h1
        exact ⟨ρ1, S1, l, fs, hd1, rl.ext e1, r1, h1, by simpa using h4, g3⟩⟩) fun u s1 ⟨y, H1, I1, rx, ρ1, S1, l, fs, hd1, rl1, r1, h1, h3, g1⟩ => ?_) ht
  obtain ⟨_, a, C, dx, vs, rfl, ha', h0, h4, h5⟩ := insOf_at hd1 r1 h1
  obtain rfl : u = Value.ref a := rx
  obtain ⟨C', fa, fd, T1, hm, F, hb⟩ := T.ex
  obtain rfl := T1.one h0
  refine getmeth_ok I1 h4 T1.c hm (h5.lookupN h3) ?_
  refine PySem.W.callWith_K0 (first := [.ref a]) I1.kIn hm.kp ?_
  have b := hb s1 [.ref a] I1.kIn (by simp [hps])
  rw [List.append_nil] at b
  have spg : spG1 X.K ps.length m [.ref a] H1 D.rt (fun H' => D.nx σ H') := by
    refine ⟨ρ1, [.ref l], S1, by simp [hps], IsL.cons r1 IsL.nil, hd1, ?_⟩
    cases hmm : m [.ref l] S1 with
    | ok v S2 =>
      rw [hmm] at g1
      cases v with
      | some v => exact g1
      | none => exact fun ρ' H' hd' e' => g1 ρ' H' σ hd' e' (rl1.ext e')
    | ex e S2 => rw [hmm] at g1; exact g1.elim
    | no => rw [hmm] at g1; exact g1.elim
  have hk1 : Ard k X.A := hr.mono (by omega)
  refine wpAny_call (codeAny_mono (F.run X.A X.stack s1 H1 ⟨[.ref a], []⟩ [.ref a] [.ref a] D.rt (fun H' => D.nx σ H') hk1.room hk1.grd I1.env0 b (.cons rfl .nil) spg) fun r s2 hq => ?_)
  match r, hq with
  | .error e, hq => exact False.elim hq
  | .ok .next, hq => exact False.elim hq
  | .ok .brk, hq => exact False.elim hq
  | .ok .cont, hq => exact False.elim hq
  | .ok (.ret u), hq =>
    obtain ⟨a', gn, c, rfl, hg, hgs, hos, hba, hlim, hkp, wake⟩ := hq
    refine wpAny_pyIter_gen hg ?_
    refine codeAny_forLoop_any (fun _ s' => s' = s2) ?_ 0 rfl
    rintro n s3 rfl
    refine next_genG (A := X.A) (n := 1) (F := fun _ _ s1' => ∃ H', s1'.os = s1.os ∧ AllBare s1'.gens ∧ Un (frs X.stack) [] H1 H' s1.heap s1'.heap ∧ HOk X.prog X.w H' s1'.heap ∧ D.nx σ H')
      (Er := fun e s1' => L2.CX X.prog X.w X.stack H1 s1 (fun _ _ _ => False) e s1' ∧ s1'.heap.IsGen a' gn) (Y := YItem1 X.prog X.w X.stack H1 s1 D.rt) hr.room.hd hlim (by have := hr.room.dp; omega) hg hgs ⟨rfl, wake X.A.in1 _ ⟨⟨hr.room.hd, ?_, ?_⟩, hr.grd⟩ I1.ok.frames (fun b o e => e) hos (allBare_setGen hba rfl)⟩ (fun v s4 gs' hbare hv' => ?_) (fun s4 hp' h' hk' => ?_) fun e s4 he => ?_
    · have := hr.room.dp
      show X.A.depth + 3 * k + 5 < _
      omega
    · have := hr.room.un
      show X.A.units + 1 + 16 * k + 200 < _
      omega
    · obtain ⟨y, H', ry, os4, b4, un, hok, hD⟩ := hv'
      have J : Inv X pins σ H' (s4.setGen gn gs') := I1.call' (ch := []) os4 un hok (allBare_setGen b4 hbare) ExOk.nil
      refine wpAny_pure ?_
      refine wpAny_passesOwn hp (thn (hgt.run pins _ σ H' y v (fun σ2 H2 => σ2 = σ.set i (some y) ∧ D.rt y H2) J ry ⟨rfl, hD⟩) fun _ s6 ⟨σ6, H6, I6, e6, q6⟩ => ?_)
      subst e6
      have hil : i < σ.length := by
        have := I6.len
        rw [List.length_set] at this
        rw [this]
        exact (List.getElem?_eq_some_iff.mp hi).1
      refine wpAny_passesOwn hp (thn ((pss_one (ps_ret (pos := rpos) hv)).run pins s6 _ H6 { nx := fun _ _ => False, rt := D.rt } I6 ⟨y, List.getElem?_set_self hil, q6⟩) fun f s7 q7 => ?_)
      cases f with
      | next => obtain ⟨_, _, _, z⟩ := q7; exact z.elim
      | cont => obtain ⟨_, _, _, z⟩ := q7; exact z.elim
      | brk => obtain ⟨_, _, _, z⟩ := q7; exact z.elim
      | ret v7 => exact q7
    · obtain ⟨H', os4, b4, un, hok, hD⟩ := hp'
      have J : Inv X pins σ H' { s4.setGen gn .finished with heap := h' } := I1.call' (ch := []) os4 (un.trans (Un.kept hk')) (hok.kept hk') (allBare_setGen b4 rfl) ExOk.nil
      exact wpAny_execs_nil ⟨σ, H', J, hD⟩
    · obtain ⟨⟨a1, B, H', cls1, d, rfl, fl, _, _, _, _, _, hW⟩, _⟩ := he
      exact hW.elim
end
end Md

set_option Elab.async false
set_option linter.all false
set_option maxRecDepth 100000
set_option maxHeartbeats 2000000
namespace Law
open PySem PySem.Spec PyProof.Rows L2 Md
def top (i : Nat) : Stmt := PySem.Challenge.pw_pilepass_k30_heights_of_orders.main.body.getD i (.Pass ⟨0, 0, 0, 0⟩)
abbrev s__law_deck : Stmt := top 10
abbrev s__law_draw : Stmt := top 11
abbrev s__law_mixed : Stmt := top 13
abbrev s__law_renumbered : Stmt := top 15
abbrev s__law_one : Stmt := top 12
abbrev s__law_kind : Stmt := top 14
abbrev s__law_woven : Stmt := top 16
abbrev s_Passes_is_done : Stmt := inClass (top 4) 5
abbrev s_Passes_cells : Stmt := inClass (top 4) 1
abbrev s_Passes_behind : Stmt := inClass (top 4) 3
abbrev s_Passes_finds : Stmt := inClass (top 4) 2
abbrev s_Passes_nexts : Stmt := inClass (top 4) 4
abbrev s_Passes_ways : Stmt := inClass (top 4) 6
abbrev s_Passes_orders : Stmt := inClass (top 4) 10
abbrev s_Passes_first_order : Stmt := inClass (top 4) 11
abbrev s_ties : Stmt := top 2
abbrev s_Passes___init__ : Stmt := inClass (top 4) 0
abbrev s_order_of : Stmt := top 8
abbrev s_heights : Stmt := top 6
abbrev s__law_inputs : Stmt := top 18
abbrev s__law_ties : Stmt := top 17
abbrev s__law_heights : Stmt := top 19
abbrev s_law : Stmt := top 20
abbrev n__law_deck : List Str := ["script", "cell"]
theorem sc__law_deck : FnScope n__law_deck ["script"] (defScope s__law_deck) := ⟨rfl, rfl, rfl, by decide +kernel, rfl, by decide +kernel, by decide +kernel⟩
abbrev n__law_draw : List Str := ["deck", "many", "cell", "at", "mixed"]
theorem sc__law_draw : FnScope n__law_draw ["deck", "many"] (defScope s__law_draw) := ⟨rfl, rfl, rfl, by decide +kernel, rfl, by decide +kernel, by decide +kernel⟩
abbrev n__law_mixed : List Str := ["deck", "items", "left", "found", "k"]
theorem sc__law_mixed : FnScope n__law_mixed ["deck", "items"] (defScope s__law_mixed) := ⟨rfl, rfl, rfl, by decide +kernel, rfl, by decide +kernel, by decide +kernel⟩
abbrev n__law_renumbered : List Str := ["web", "order", "old", "one"]
theorem sc__law_renumbered : FnScope n__law_renumbered ["web", "order"] (defScope s__law_renumbered) := ⟨rfl, rfl, rfl, by decide +kernel, rfl, by decide +kernel, by decide +kernel⟩
abbrev n__law_one : List Str := ["deck", "items"]
theorem sc__law_one : FnScope n__law_one ["deck", "items"] (defScope s__law_one) := ⟨rfl, rfl, rfl, by decide +kernel, rfl, by decide +kernel, by decide +kernel⟩
abbrev n__law_kind : List Str := ["deck", "many", "kinds"]
theorem sc__law_kind : FnScope n__law_kind ["deck", "many"] (defScope s__law_kind) := ⟨rfl, rfl, rfl, by decide +kernel, rfl, by decide +kernel, by decide +kernel⟩
abbrev n__law_woven : List Str := ["deck", "most", "is_queue", "cells", "steps", "k", "many", "taken", "mixed"]
theorem sc__law_woven : FnScope n__law_woven ["deck", "most", "is_queue"] (defScope s__law_woven) := ⟨rfl, rfl, rfl, by decide +kernel, rfl, by decide +kernel, by decide +kernel⟩
abbrev n_Passes_is_done : List Str := ["self", "done"]
theorem sc_Passes_is_done : FnScope n_Passes_is_done ["self", "done"] (defScope s_Passes_is_done) := ⟨rfl, rfl, rfl, by decide +kernel, rfl, by decide +kernel, by decide +kernel⟩
abbrev n_Passes_cells : List Str := ["self", "done", "giver", "taker", "number"]
theorem sc_Passes_cells : FnScope n_Passes_cells ["self", "done", "giver"] (defScope s_Passes_cells) := ⟨rfl, rfl, rfl, by decide +kernel, rfl, by decide +kernel, by decide +kernel⟩
abbrev n_Passes_behind : List Str := ["self", "done", "line", "step", "later", "giver"]
theorem sc_Passes_behind : FnScope n_Passes_behind ["self", "done", "line", "step"] (defScope s_Passes_behind) := ⟨rfl, rfl, rfl, by decide +kernel, rfl, by decide +kernel, by decide +kernel⟩
abbrev n_Passes_finds : List Str := ["self", "done", "line", "step", "wanted", "giver", "number"]
theorem sc_Passes_finds : FnScope n_Passes_finds ["self", "done", "line", "step"] (defScope s_Passes_finds) := ⟨rfl, rfl, rfl, by decide +kernel, rfl, by decide +kernel, by decide +kernel⟩
abbrev n_Passes_nexts : List Str := ["self", "done", "line", "some", "step"]
theorem sc_Passes_nexts : FnScope n_Passes_nexts ["self", "done", "line"] (defScope s_Passes_nexts) := ⟨rfl, rfl, rfl, by decide +kernel, rfl, by decide +kernel, by decide +kernel⟩
abbrev n_Passes_ways : List Str := ["self", "done", "line", "found", "step", "later", "behind"]
theorem sc_Passes_ways : FnScope n_Passes_ways ["self", "done", "line"] (defScope s_Passes_ways) := ⟨rfl, rfl, rfl, by decide +kernel, rfl, by decide +kernel, by decide +kernel⟩
abbrev n_Passes_orders : List Str := ["self", "waiting", "steps", "done", "line", "some", "pair", "step", "standing"]
theorem sc_Passes_orders : GScope n_Passes_orders ["self"] (defScope s_Passes_orders) := ⟨rfl, rfl, rfl, by decide +kernel, rfl, by decide +kernel, by decide +kernel⟩
abbrev n_Passes_first_order : List Str := ["self", "steps"]
theorem sc_Passes_first_order : FnScope n_Passes_first_order ["self"] (defScope s_Passes_first_order) := ⟨rfl, rfl, rfl, by decide +kernel, rfl, by decide +kernel, by decide +kernel⟩
abbrev n_ties : List Str := ["web", "found", "taker", "kind", "inputs", "place", "giver"]
theorem sc_ties : FnScope n_ties ["web"] (defScope s_ties) := ⟨rfl, rfl, rfl, by decide +kernel, rfl, by decide +kernel, by decide +kernel⟩
abbrev n_Passes___init__ : List Str := ["self", "web", "is_queue", "giver", "taker", "place", "step"]
theorem sc_Passes___init__ : FnScope n_Passes___init__ ["self", "web", "is_queue"] (defScope s_Passes___init__) := ⟨rfl, rfl, rfl, by decide +kernel, rfl, by decide +kernel, by decide +kernel⟩
abbrev n_order_of : List Str := ["web"]
theorem sc_order_of : FnScope n_order_of ["web"] (defScope s_order_of) := ⟨rfl, rfl, rfl, by decide +kernel, rfl, by decide +kernel, by decide +kernel⟩
abbrev n_heights : List Str := ["web", "order", "found", "here", "places", "place", "step", "tie"]
theorem sc_heights : FnScope n_heights ["web", "order"] (defScope s_heights) := ⟨rfl, rfl, rfl, by decide +kernel, rfl, by decide +kernel, by decide +kernel⟩
abbrev n__law_inputs : List Str := ["web", "found", "step", "place"]
theorem sc__law_inputs : FnScope n__law_inputs ["web"] (defScope s__law_inputs) := ⟨rfl, rfl, rfl, by decide +kernel, rfl, by decide +kernel, by decide +kernel⟩
abbrev n__law_ties : List Str := ["web", "taker", "place"]
theorem sc__law_ties : FnScope n__law_ties ["web"] (defScope s__law_ties) := ⟨rfl, rfl, rfl, by decide +kernel, rfl, by decide +kernel, by decide +kernel⟩
abbrev n__law_heights : List Str := ["web", "order", "found", "at", "done", "giver", "taker", "place"]
theorem sc__law_heights : FnScope n__law_heights ["web", "order"] (defScope s__law_heights) := ⟨rfl, rfl, rfl, by decide +kernel, rfl, by decide +kernel, by decide +kernel⟩
abbrev n_law : List Str := ["script", "deck", "turn", "web", "order", "row"]
theorem sc_law : FnScope n_law ["script"] (defScope s_law) := ⟨rfl, rfl, rfl, by decide +kernel, rfl, by decide +kernel, by decide +kernel⟩
structure Txt (K : PySem.W.Frag) (mg : Str → Option Value) : Prop where
  z_abs : mg "abs" = none
  z_dict : mg "dict" = none
  z_enumerate : mg "enumerate" = none
  z_int : mg "int" = none
  z_len : mg "len" = none
  z_list : mg "list" = none
  z_min : mg "min" = none
  z_range : mg "range" = none
  z_repr : mg "repr" = none
  z_sorted : mg "sorted" = none
  z_sum : mg "sum" = none
  z_tuple : mg "tuple" = none
  kw_0 : KwAt K mg "heights" ["web", "order"] 0 ["order", "web"] [1, 0]
  fl_is_queue : ∀ c ∈ [("Passes" : Str)], ∃ C, ClK K c C ∧ NoAttr K C "is_queue"
  fl_known : ∀ c ∈ [("Passes" : Str)], ∃ C, ClK K c C ∧ NoAttr K C "known"
  fl_many : ∀ c ∈ [("Passes" : Str)], ∃ C, ClK K c C ∧ NoAttr K C "many"
  fl_peaks : ∀ c ∈ [("Passes" : Str)], ∃ C, ClK K c C ∧ NoAttr K C "peaks"
  fl_uses : ∀ c ∈ [("Passes" : Str)], ∃ C, ClK K c C ∧ NoAttr K C "uses"
  fl_wants : ∀ c ∈ [("Passes" : Str)], ∃ C, ClK K c C ∧ NoAttr K C "wants"
noncomputable abbrev b__law_deck : SD := sCons (sRet (mLstO (mCons (mLcF finO (mSeq (mSl (mVar 0) (mPart none) (mPart (some (mC (.int 63)))))) (mgName 1) (mYes) (mCall fAbs (mCons (mVar 1) (mNil))) [1]) (mCons (mC (.int 0)) (mNil)))))
    (sNil)
noncomputable def m__law_deck : List D → Sto → Out D := mDefU 2 1 b__law_deck
theorem d__law_deck {P : Program} {w : World} {K : PySem.W.Frag} {mg : Str → Option Value} {base : Heap} (T : Txt K mg) (F : FunAt K mg "_law_deck" s__law_deck ["script"])  : DefAt P w K mg base "_law_deck" 1 ["script"] m__law_deck :=
  defAt (N := n__law_deck) (ms := b__law_deck) F sc__law_deck (.inr rfl) fun f cdv A outer s H E hr =>
    pms_cons (pms_ret (pm_lstO (pma_cons (pm_lc (own := [("cell", 1)]) (.inr rfl) rfl sc__law_deck.nd (pmi_seq (pm_sl (pm_var (pv 0)) (pmo_none) (pmo_some (pm_int)))) (blkOk_by (N := n__law_deck) (sc := defScope s__law_deck) (by decide +kernel)) (tg_name) (by decide) (fun _ _ _ _ _ => pg_name (i := 1) sc__law_deck.nd rfl (by first | exact Or.inl rfl | exact Or.inr rfl)) (fun _ _ _ _ _ => pts_md0 rfl) (fun _ _ _ _ _ => pm_callB cm_abs (by rfl) T.z_abs Md.boot_abs (pma_cons (pm_var (pv 1)) (pma_nil)))) (pma_cons (pm_int) (pma_nil)))))
    (pms_nil)
noncomputable abbrev b__law_draw : SD := sCons (sSub (mVar 0) (mC (.int 1)) (mOp fAdd (mOp fIx (mVar 0) (mC (.int 1))) (mC (.int 1))))
    (sCons (sAsg (mgTup 2 (mgCons (mgName 2) (mgCons (mgName 3) (mgNil)))) (mTup (mCons (mC (.int 0)) (mCons (mUn fNeg (mC (.int 1))) (mNil)))))
    (sCons (sIf (mB (mOp fGt (mCall fLen (mCons (mOp fIx (mVar 0) (mC (.int 0))) (mNil))) (mC (.int 0))))
    (sCons (sSet 3 (mOp fMod (mCall fInt (mCons (mOp fIx (mVar 0) (mC (.int 1))) (mNil))) (mCall fLen (mCons (mOp fIx (mVar 0) (mC (.int 0))) (mNil)))))
    (sCons (sSet 2 (mOp fIx (mOp fIx (mVar 0) (mC (.int 0))) (mVar 3)))
    (sNil)))
    (sNil))
    (sCons (sIf (mB (mOp fGe (mVar 2) (mOp fPow (mC (.int 10)) (mC (.int 18)))))
    (sCons (sSub (mOp fIx (mVar 0) (mC (.int 0))) (mVar 3) (mOp fFdiv (mCall fInt (mCons (mVar 2) (mNil))) (mVar 1)))
    (sCons (sRet (mOp fMod (mCall fInt (mCons (mVar 2) (mNil))) (mVar 1)))
    (sNil)))
    (sNil))
    (sCons (sSet 4 (mOp fAdd (mOp fAdd (mOp fMod (mCall fInt (mCons (mVar 2) (mNil))) (mC (.int 2147483477))) (mOp fMul (mC (.int 11213)) (mOp fIx (mVar 0) (mC (.int 1))))) (mC (.int 7))))
    (sCons (sRet (mOp fMod (mCall fInt (mCons (mOp fMod (mCall fInt (mCons (mOp fPow (mVar 4) (mC (.int 5))) (mNil))) (mC (.int 2147483543))) (mNil))) (mVar 1)))
    (sNil))))))
noncomputable def m__law_draw : List D → Sto → Out D := mDef 5 2 b__law_draw
theorem d__law_draw {P : Program} {w : World} {K : PySem.W.Frag} {mg : Str → Option Value} {base : Heap} (T : Txt K mg) (F : FunAt K mg "_law_draw" s__law_draw ["deck", "many"])  : DefAt P w K mg base "_law_draw" 1 ["deck", "many"] m__law_draw :=
  defAt (N := n__law_draw) (ms := b__law_draw) F sc__law_draw (.inl rfl) fun f cdv A outer s H E hr =>
    pms_cons (pms_sub hr.u1 (pm_var (pv 0)) (pm_int) (pm_op om_add rM_ok (pm_ix hr.u1 (pm_var (pv 0)) (pm_int)) (pm_int)))
    (pms_cons (pms_asg (pm_tup (pma_cons (pm_int) (pma_cons (pm_un un_neg ru_neg (pm_int)) (pma_nil)))) (pg_tup rfl (pgs_cons (pg_name (i := 2) sc__law_draw.nd rfl (by first | exact Or.inl rfl | exact Or.inr rfl)) (pgs_cons (pg_name (i := 3) sc__law_draw.nd rfl (by first | exact Or.inl rfl | exact Or.inr rfl)) (pgs_nil)))) (tg_tup (tgs_cons (tg_name) (tgs_cons (tg_name) (tgs_nil)))))
    (pms_cons (pms_if (pm_cmpT om_gt rM_ok (pm_callB cm_len (by rfl) T.z_len Md.boot_len (pma_cons (pm_ix hr.u1 (pm_var (pv 0)) (pm_int)) (pma_nil))) (pm_int) (by rfl))
    (pms_cons (pms_set (i := 3) sc__law_draw.nd rfl (by first | exact Or.inl rfl | exact Or.inr rfl) (pm_op om_mod rM_ok (pm_callTy cm_int (by rfl) T.z_int Md.boot_int (pma_cons (pm_ix hr.u1 (pm_var (pv 0)) (pm_int)) (pma_nil))) (pm_callB cm_len (by rfl) T.z_len Md.boot_len (pma_cons (pm_ix hr.u1 (pm_var (pv 0)) (pm_int)) (pma_nil)))))
    (pms_cons (pms_set (i := 2) sc__law_draw.nd rfl (by first | exact Or.inl rfl | exact Or.inr rfl) (pm_ix hr.u1 (pm_ix hr.u1 (pm_var (pv 0)) (pm_int)) (pm_var (pv 3))))
    (pms_nil)))
    (pms_nil))
    (pms_cons (pms_if (pm_cmpT om_ge rM_ok (pm_var (pv 2)) (pm_op om_pow rM_ok (pm_int) (pm_int)) (by rfl))
    (pms_cons (pms_sub hr.u1 (pm_ix hr.u1 (pm_var (pv 0)) (pm_int)) (pm_var (pv 3)) (pm_op om_fdiv rM_ok (pm_callTy cm_int (by rfl) T.z_int Md.boot_int (pma_cons (pm_var (pv 2)) (pma_nil))) (pm_var (pv 1))))
    (pms_cons (pms_ret (pm_op om_mod rM_ok (pm_callTy cm_int (by rfl) T.z_int Md.boot_int (pma_cons (pm_var (pv 2)) (pma_nil))) (pm_var (pv 1))))
    (pms_nil)))
    (pms_nil))
    (pms_cons (pms_set (i := 4) sc__law_draw.nd rfl (by first | exact Or.inl rfl | exact Or.inr rfl) (pm_op om_add rM_ok (pm_op om_add rM_ok (pm_op om_mod rM_ok (pm_callTy cm_int (by rfl) T.z_int Md.boot_int (pma_cons (pm_var (pv 2)) (pma_nil))) (pm_int)) (pm_op om_mul rM_ok (pm_int) (pm_ix hr.u1 (pm_var (pv 0)) (pm_int)))) (pm_int)))
    (pms_cons (pms_ret (pm_op om_mod rM_ok (pm_callTy cm_int (by rfl) T.z_int Md.boot_int (pma_cons (pm_op om_mod rM_ok (pm_callTy cm_int (by rfl) T.z_int Md.boot_int (pma_cons (pm_op om_pow rM_ok (pm_var (pv 4)) (pm_int)) (pma_nil))) (pm_int)) (pma_nil))) (pm_var (pv 1))))
    (pms_nil))))))
noncomputable abbrev b__law_mixed : SD := sCons (sPar 2 3 (mCons (mCall fListO (mCons (mVar 1) (mNil))) (mCons (mLstO (mNil)) mNil)))
    (sCons (sFor (mRng1 (mCons (mCall fLen (mCons (mVar 1) (mNil))) (mNil))) (mgName 4)
    (sCons (sExpr (mMet "list" fAppend (mVar 3) (mCons (mMet "list" fPop (mVar 2) (mCons (mFn m__law_draw (mCons (mVar 0) (mCons (mCall fLen (mCons (mVar 2) (mNil))) (mNil)))) (mNil))) (mNil))))
    (sNil)))
    (sCons (sRet (mVar 3))
    (sNil)))
noncomputable def m__law_mixed : List D → Sto → Out D := mDef 5 2 b__law_mixed
theorem d__law_mixed {P : Program} {w : World} {K : PySem.W.Frag} {mg : Str → Option Value} {base : Heap} (T : Txt K mg) (F : FunAt K mg "_law_mixed" s__law_mixed ["deck", "items"]) (G__law_draw : DefAt P w K mg base "_law_draw" 1 ["deck", "many"] m__law_draw) : DefAt P w K mg base "_law_mixed" 2 ["deck", "items"] m__law_mixed :=
  defAt (N := n__law_mixed) (ms := b__law_mixed) F sc__law_mixed (.inl rfl) fun f cdv A outer s H E hr =>
    pms_cons (pms_par (i := 2) (j := 3) rfl sc__law_mixed.nd rfl rfl (by decide) rfl rfl (pma_cons (pm_callTy cm_listO (by rfl) T.z_list Md.boot_list (pma_cons (pm_var (pv 1)) (pma_nil))) (pma_cons (pm_lstO (pma_nil)) pma_nil)) rfl)
    (pms_cons (pms_for (passes_of rfl) rfl (pmi_rng1 (by rfl) T.z_range (pma_cons (pm_callB cm_len (by rfl) T.z_len Md.boot_len (pma_cons (pm_var (pv 1)) (pma_nil))) (pma_nil))) (pg_name (i := 4) sc__law_mixed.nd rfl (by first | exact Or.inl rfl | exact Or.inr rfl)) (tg_name)
    (pms_cons (pms_expr (pm_bm PySem.F.plainAttrs_list PySem.F.slot_list_append PySem.F.type_list_append mm_append (pm_var (pv 3)) (pma_cons (pm_bm PySem.F.plainAttrs_list PySem.F.slot_list_pop PySem.F.type_list_pop mm_pop (pm_var (pv 2)) (pma_cons (pm_def G__law_draw hr (by decide) takesG (by rfl) (pma_cons (pm_var (pv 0)) (pma_cons (pm_callB cm_len (by rfl) T.z_len Md.boot_len (pma_cons (pm_var (pv 2)) (pma_nil))) (pma_nil)))) (pma_nil))) (pma_nil))))
    (pms_nil)))
    (pms_cons (pms_ret (pm_var (pv 3)))
    (pms_nil)))
noncomputable abbrev b__law_renumbered : SD := sCons (sRet (mCall fTuple (mCons (mLcF finL (mSeq (mVar 1)) (mgName 2) (mYes) (mTup (mCons (mOp fIx (mOp fIx (mVar 0) (mVar 2)) (mC (.int 0))) (mCons (mCall fTuple (mCons (mLcF finL (mSeq (mOp fIx (mOp fIx (mVar 0) (mVar 2)) (mC (.int 1)))) (mgName 3) (mYes) (mMet "list" fIndex (mVar 1) (mCons (mVar 3) (mNil))) [3]) (mNil))) (mNil)))) [2]) (mNil))))
    (sNil)
noncomputable def m__law_renumbered : List D → Sto → Out D := mDef 4 2 b__law_renumbered
theorem d__law_renumbered {P : Program} {w : World} {K : PySem.W.Frag} {mg : Str → Option Value} {base : Heap} (T : Txt K mg) (F : FunAt K mg "_law_renumbered" s__law_renumbered ["web", "order"])  : DefAt P w K mg base "_law_renumbered" 1 ["web", "order"] m__law_renumbered :=
  defAt (N := n__law_renumbered) (ms := b__law_renumbered) F sc__law_renumbered (.inl rfl) fun f cdv A outer s H E hr =>
    pms_cons (pms_ret (pm_callTy cm_tuple (by rfl) T.z_tuple Md.boot_tuple (pma_cons (pm_lc (own := [("old", 2)]) (.inl rfl) rfl sc__law_renumbered.nd (pmi_seq (pm_var (pv 1))) (blkOk_by (N := n__law_renumbered) (sc := defScope s__law_renumbered) (by decide +kernel)) (tg_name) (by decide) (fun _ _ _ _ _ => pg_name (i := 2) sc__law_renumbered.nd rfl (by first | exact Or.inl rfl | exact Or.inr rfl)) (fun _ _ _ _ _ => pts_md0 rfl) (fun _ _ _ _ _ => pm_tup (pma_cons (pm_ix hr.u1 (pm_ix hr.u1 (pm_var (pv 0)) (pm_var (pv 2))) (pm_int)) (pma_cons (pm_callTy cm_tuple (by rfl) T.z_tuple Md.boot_tuple (pma_cons (pm_lc (own := [("one", 3)]) (.inl rfl) rfl sc__law_renumbered.nd (pmi_seq (pm_ix hr.u1 (pm_ix hr.u1 (pm_var (pv 0)) (pm_var (pv 2))) (pm_int))) (blkOk_by (by kernel_rfl)) (tg_name) (by decide) (fun _ _ _ _ _ => pg_name (i := 3) sc__law_renumbered.nd rfl (by first | exact Or.inl rfl | exact Or.inr rfl)) (fun _ _ _ _ _ => pts_md0 rfl) (fun _ _ _ _ _ => pm_bm PySem.F.plainAttrs_list PySem.F.slot_list_index PySem.F.type_list_index (mm_index hr.u65) (pm_var (pv 1)) (pma_cons (pm_var (pv 3)) (pma_nil)))) (pma_nil))) (pma_nil))))) (pma_nil))))
    (pms_nil)
noncomputable abbrev b__law_one : SD := sCons (sRet (mOp fIx (mVar 1) (mFn m__law_draw (mCons (mVar 0) (mCons (mCall fLen (mCons (mVar 1) (mNil))) (mNil))))))
    (sNil)
noncomputable def m__law_one : List D → Sto → Out D := mDef 2 2 b__law_one
theorem d__law_one {P : Program} {w : World} {K : PySem.W.Frag} {mg : Str → Option Value} {base : Heap} (T : Txt K mg) (F : FunAt K mg "_law_one" s__law_one ["deck", "items"]) (G__law_draw : DefAt P w K mg base "_law_draw" 1 ["deck", "many"] m__law_draw) : DefAt P w K mg base "_law_one" 2 ["deck", "items"] m__law_one :=
  defAt (N := n__law_one) (ms := b__law_one) F sc__law_one (.inl rfl) fun f cdv A outer s H E hr =>
    pms_cons (pms_ret (pm_ix hr.u1 (pm_var (pv 1)) (pm_def G__law_draw hr (by decide) takesG (by rfl) (pma_cons (pm_var (pv 0)) (pma_cons (pm_callB cm_len (by rfl) T.z_len Md.boot_len (pma_cons (pm_var (pv 1)) (pma_nil))) (pma_nil))))))
    (pms_nil)
noncomputable abbrev b__law_kind : SD := sCons (sSet 2 (mLst (mCons (mLst (mCons (mC (.str "in")) (mCons (mC (.str "in")) (mCons (mC (.str "in")) (mCons (mOp fSub (mFn m__law_draw (mCons (mVar 0) (mCons (mC (.int 199)) (mNil)))) (mC (.int 99))) (mCons (mC (.int 0)) (mCons (mC (.int 7)) (mNil)))))))) (mCons (mLst (mCons (mC (.str "neg")) (mNil))) (mCons (mLst (mCons (mC (.str "+")) (mCons (mC (.str "-")) (mCons (mC (.str "*")) (mNil))))) (mCons (mLst (mCons (mC (.str "pick")) (mNil))) (mNil)))))))
    (sCons (sRet (mFn m__law_one (mCons (mVar 0) (mCons (mOp fIx (mVar 2) (mVar 1)) (mNil)))))
    (sNil))
noncomputable def m__law_kind : List D → Sto → Out D := mDef 3 2 b__law_kind
theorem d__law_kind {P : Program} {w : World} {K : PySem.W.Frag} {mg : Str → Option Value} {base : Heap} (T : Txt K mg) (F : FunAt K mg "_law_kind" s__law_kind ["deck", "many"]) (G__law_one : DefAt P w K mg base "_law_one" 2 ["deck", "items"] m__law_one) (G__law_draw : DefAt P w K mg base "_law_draw" 1 ["deck", "many"] m__law_draw) : DefAt P w K mg base "_law_kind" 3 ["deck", "many"] m__law_kind :=
  defAt (N := n__law_kind) (ms := b__law_kind) F sc__law_kind (.inl rfl) fun f cdv A outer s H E hr =>
    pms_cons (pms_set (i := 2) sc__law_kind.nd rfl (by first | exact Or.inl rfl | exact Or.inr rfl) (pm_lst (pma_cons (pm_lst (pma_cons (pm_str) (pma_cons (pm_str) (pma_cons (pm_str) (pma_cons (pm_op om_sub rM_ok (pm_def G__law_draw hr (by decide) takesG (by rfl) (pma_cons (pm_var (pv 0)) (pma_cons (pm_int) (pma_nil)))) (pm_int)) (pma_cons (pm_int) (pma_cons (pm_int) (pma_nil)))))))) (pma_cons (pm_lst (pma_cons (pm_str) (pma_nil))) (pma_cons (pm_lst (pma_cons (pm_str) (pma_cons (pm_str) (pma_cons (pm_str) (pma_nil))))) (pma_cons (pm_lst (pma_cons (pm_str) (pma_nil))) (pma_nil)))))))
    (pms_cons (pms_ret (pm_def G__law_one hr (by decide) takesG (by rfl) (pma_cons (pm_var (pv 0)) (pma_cons (pm_ix hr.u1 (pm_var (pv 2)) (pm_var (pv 1))) (pma_nil)))))
    (pms_nil))
noncomputable abbrev b__law_woven : SD := sCons (sPar 3 4 (mCons (mLst (mNil)) (mCons (mLstO (mNil)) mNil)))
    (sCons (sFor (mRng1 (mCons (mOp fAdd (mC (.int 1)) (mFn m__law_draw (mCons (mVar 0) (mCons (mVar 1) (mNil))))) (mNil))) (mgName 5)
    (sCons (sSet 6 (mCall fMin (mCons (mFn m__law_one (mCons (mVar 0) (mCons (mLst (mCons (mC (.int 0)) (mCons (mC (.int 0)) (mCons (mC (.int 1)) (mCons (mC (.int 2)) (mCons (mC (.int 2)) (mCons (mC (.int 3)) (mNil)))))))) (mNil)))) (mCons (mCall fLen (mCons (mVar 3) (mNil))) (mNil)))))
    (sCons (sSet 7 (mIf (mTru (mVar 2)) (mSl (mVar 3) (mPart none) (mPart (some (mVar 6)))) (mSl (mVar 3) (mPart (some (mOp fSub (mCall fLen (mCons (mVar 3) (mNil))) (mVar 6)))) (mPart none))))
    (sCons (sSet 3 (mIf (mTru (mVar 2)) (mSl (mVar 3) (mPart (some (mVar 6))) (mPart none)) (mSl (mVar 3) (mPart none) (mPart (some (mOp fSub (mCall fLen (mCons (mVar 3) (mNil))) (mVar 6)))))))
    (sCons (sExpr (mMet "list" fAppend (mVar 4) (mCons (mTup (mCons (mFn m__law_kind (mCons (mVar 0) (mCons (mVar 6) (mNil)))) (mCons (mCall fTuple (mCons (mFn m__law_mixed (mCons (mVar 0) (mCons (mVar 7) (mNil)))) (mNil))) (mNil)))) (mNil))))
    (sCons (sSet 3 (mOp fAdd (mVar 3) (mOp fMul (mLst (mCons (mVar 5) (mNil))) (mFn m__law_draw (mCons (mVar 0) (mCons (mC (.int 4)) (mNil)))))))
    (sNil)))))))
    (sCons (sSet 8 (mFn m__law_mixed (mCons (mVar 0) (mCons (mRgL1 (mCall fLen (mCons (mVar 4) (mNil)))) (mNil)))))
    (sCons (sRet (mTup (mCons (mFn m__law_renumbered (mCons (mVar 4) (mCons (mVar 8) (mNil)))) (mCons (mCall fTuple (mCons (mLcF finL (mRng1 (mCons (mCall fLen (mCons (mVar 4) (mNil))) (mNil))) (mgName 5) (mYes) (mMet "list" fIndex (mVar 8) (mCons (mVar 5) (mNil))) [5]) (mNil))) (mNil)))))
    (sNil))))
noncomputable def m__law_woven : List D → Sto → Out D := mDef 9 3 b__law_woven
theorem d__law_woven {P : Program} {w : World} {K : PySem.W.Frag} {mg : Str → Option Value} {base : Heap} (T : Txt K mg) (F : FunAt K mg "_law_woven" s__law_woven ["deck", "most", "is_queue"]) (G__law_mixed : DefAt P w K mg base "_law_mixed" 2 ["deck", "items"] m__law_mixed) (G__law_renumbered : DefAt P w K mg base "_law_renumbered" 1 ["web", "order"] m__law_renumbered) (G__law_draw : DefAt P w K mg base "_law_draw" 1 ["deck", "many"] m__law_draw) (G__law_one : DefAt P w K mg base "_law_one" 2 ["deck", "items"] m__law_one) (G__law_kind : DefAt P w K mg base "_law_kind" 3 ["deck", "many"] m__law_kind) : DefAt P w K mg base "_law_woven" 4 ["deck", "most", "is_queue"] m__law_woven :=
  defAt (N := n__law_woven) (ms := b__law_woven) F sc__law_woven (.inl rfl) fun f cdv A outer s H E hr =>
    pms_cons (pms_par (i := 3) (j := 4) rfl sc__law_woven.nd rfl rfl (by decide) rfl rfl (pma_cons (pm_lst (pma_nil)) (pma_cons (pm_lstO (pma_nil)) pma_nil)) rfl)
    (pms_cons (pms_for (passes_of rfl) rfl (pmi_rng1 (by rfl) T.z_range (pma_cons (pm_op om_add rM_ok (pm_int) (pm_def G__law_draw hr (by decide) takesG (by rfl) (pma_cons (pm_var (pv 0)) (pma_cons (pm_var (pv 1)) (pma_nil))))) (pma_nil))) (pg_name (i := 5) sc__law_woven.nd rfl (by first | exact Or.inl rfl | exact Or.inr rfl)) (tg_name)
    (pms_cons (pms_set (i := 6) sc__law_woven.nd rfl (by first | exact Or.inl rfl | exact Or.inr rfl) (pm_callB (cm_min rfl) (by rfl) T.z_min Md.boot_min (pma_cons (pm_def G__law_one hr (by decide) takesG (by rfl) (pma_cons (pm_var (pv 0)) (pma_cons (pm_lst (pma_cons (pm_int) (pma_cons (pm_int) (pma_cons (pm_int) (pma_cons (pm_int) (pma_cons (pm_int) (pma_cons (pm_int) (pma_nil)))))))) (pma_nil)))) (pma_cons (pm_callB cm_len (by rfl) T.z_len Md.boot_len (pma_cons (pm_var (pv 3)) (pma_nil))) (pma_nil)))))
    (pms_cons (pms_set (i := 7) sc__law_woven.nd rfl (by first | exact Or.inl rfl | exact Or.inr rfl) (pm_if (pm_tru (pm_var (pv 2))) (pm_sl (pm_var (pv 3)) (pmo_none) (pmo_some (pm_var (pv 6)))) (pm_sl (pm_var (pv 3)) (pmo_some (pm_op om_sub rM_ok (pm_callB cm_len (by rfl) T.z_len Md.boot_len (pma_cons (pm_var (pv 3)) (pma_nil))) (pm_var (pv 6)))) (pmo_none))))
    (pms_cons (pms_set (i := 3) sc__law_woven.nd rfl (by first | exact Or.inl rfl | exact Or.inr rfl) (pm_if (pm_tru (pm_var (pv 2))) (pm_sl (pm_var (pv 3)) (pmo_some (pm_var (pv 6))) (pmo_none)) (pm_sl (pm_var (pv 3)) (pmo_none) (pmo_some (pm_op om_sub rM_ok (pm_callB cm_len (by rfl) T.z_len Md.boot_len (pma_cons (pm_var (pv 3)) (pma_nil))) (pm_var (pv 6)))))))
    (pms_cons (pms_expr (pm_bm PySem.F.plainAttrs_list PySem.F.slot_list_append PySem.F.type_list_append mm_append (pm_var (pv 4)) (pma_cons (pm_tup (pma_cons (pm_def G__law_kind hr (by decide) takesG (by rfl) (pma_cons (pm_var (pv 0)) (pma_cons (pm_var (pv 6)) (pma_nil)))) (pma_cons (pm_callTy cm_tuple (by rfl) T.z_tuple Md.boot_tuple (pma_cons (pm_def G__law_mixed hr (by decide) takesG (by rfl) (pma_cons (pm_var (pv 0)) (pma_cons (pm_var (pv 7)) (pma_nil)))) (pma_nil))) (pma_nil)))) (pma_nil))))
    (pms_cons (pms_set (i := 3) sc__law_woven.nd rfl (by first | exact Or.inl rfl | exact Or.inr rfl) (pm_op om_add rM_ok (pm_var (pv 3)) (pm_op om_mul rM_ok (pm_lst (pma_cons (pm_var (pv 5)) (pma_nil))) (pm_def G__law_draw hr (by decide) takesG (by rfl) (pma_cons (pm_var (pv 0)) (pma_cons (pm_int) (pma_nil)))))))
    (pms_nil)))))))
    (pms_cons (pms_set (i := 8) sc__law_woven.nd rfl (by first | exact Or.inl rfl | exact Or.inr rfl) (pm_def G__law_mixed hr (by decide) takesG (by rfl) (pma_cons (pm_var (pv 0)) (pma_cons (pm_rgL1 (by rfl) T.z_list (by rfl) T.z_range (pm_callB cm_len (by rfl) T.z_len Md.boot_len (pma_cons (pm_var (pv 4)) (pma_nil)))) (pma_nil)))))
    (pms_cons (pms_ret (pm_tup (pma_cons (pm_def G__law_renumbered hr (by decide) takesG (by rfl) (pma_cons (pm_var (pv 4)) (pma_cons (pm_var (pv 8)) (pma_nil)))) (pma_cons (pm_callTy cm_tuple (by rfl) T.z_tuple Md.boot_tuple (pma_cons (pm_lc (own := [("k", 5)]) (.inl rfl) rfl sc__law_woven.nd (pmi_rng1 (by rfl) T.z_range (pma_cons (pm_callB cm_len (by rfl) T.z_len Md.boot_len (pma_cons (pm_var (pv 4)) (pma_nil))) (pma_nil))) (blkOk_by (N := n__law_woven) (sc := defScope s__law_woven) (by decide +kernel)) (tg_name) (by decide) (fun _ _ _ _ _ => pg_name (i := 5) sc__law_woven.nd rfl (by first | exact Or.inl rfl | exact Or.inr rfl)) (fun _ _ _ _ _ => pts_md0 rfl) (fun _ _ _ _ _ => pm_bm PySem.F.plainAttrs_list PySem.F.slot_list_index PySem.F.type_list_index (mm_index hr.u65) (pm_var (pv 8)) (pma_cons (pm_var (pv 5)) (pma_nil)))) (pma_nil))) (pma_nil)))))
    (pms_nil))))
noncomputable abbrev b_Passes_is_done : SD := sCons (sRet (mOp fEq (mVar 1) (mOp fSub (mOp fShl (mC (.int 1)) (mFld [("Passes" : Str)] "many" (mVar 0))) (mC (.int 1)))))
    (sNil)
noncomputable def m_Passes_is_done : List D → Sto → Out D := mDef 2 2 b_Passes_is_done
theorem d_Passes_is_done {P : Program} {w : World} {K : PySem.W.Frag} {mg : Str → Option Value} {base : Heap} (T : Txt K mg) (F : MFun K "Passes" "is_done" "Passes.is_done" s_Passes_is_done ["self", "done"])  : MetAt P w K mg base "Passes" "is_done" 1 ["self", "done"] m_Passes_is_done :=
  metAt (N := n_Passes_is_done) (ms := b_Passes_is_done) F sc_Passes_is_done (.inl rfl) fun f cdv A outer s H E hr =>
    pms_cons (pms_ret (pm_cmp (om_eq hr.u64) rM_ok (pm_var (pv 1)) (pm_op om_sub rM_ok (pm_op om_shl rM_ok (pm_int) (pm_fld (cs := [("Passes" : Str)]) (pm_var (pv 0)) T.fl_many)) (pm_int)) (by rfl)))
    (pms_nil)
noncomputable abbrev b_Passes_cells : SD := sCons (sRet (mCall fSum (mCons (mLcIt (mOp fIx (mFld [("Passes" : Str)] "uses" (mVar 0)) (mVar 2)) (mgTup 2 (mgCons (mgName 3) (mgCons (mgName 4) (mgNil)))) (mB (mOp fEq (mOp fBand (mOp fShr (mVar 1) (mVar 3)) (mC (.int 1))) (mC (.int 0)))) (mVar 4) [3, 4]) (mNil))))
    (sNil)
noncomputable def m_Passes_cells : List D → Sto → Out D := mDef 5 3 b_Passes_cells
theorem d_Passes_cells {P : Program} {w : World} {K : PySem.W.Frag} {mg : Str → Option Value} {base : Heap} (T : Txt K mg) (F : MFun K "Passes" "cells" "Passes.cells" s_Passes_cells ["self", "done", "giver"])  : MetAt P w K mg base "Passes" "cells" 1 ["self", "done", "giver"] m_Passes_cells :=
  metAt (N := n_Passes_cells) (ms := b_Passes_cells) F sc_Passes_cells (.inl rfl) fun f cdv A outer s H E hr =>
    pms_cons (pms_ret (pm_callB (cm_sum rfl) (by rfl) T.z_sum Md.boot_sum (pma_cons (pm_lcIt (own := [("taker", 3), ("number", 4)]) rfl sc_Passes_cells.nd (pm_ix hr.u1 (pm_fld (cs := [("Passes" : Str)]) (pm_var (pv 0)) T.fl_uses) (pm_var (pv 2))) (blkOk_by (N := n_Passes_cells) (sc := defScope s_Passes_cells) (by decide +kernel)) (tg_tup (tgs_cons (tg_name) (tgs_cons (tg_name) (tgs_nil)))) (by decide) (fun _ _ _ _ _ => pg_tup rfl (pgs_cons (pg_name (i := 3) sc_Passes_cells.nd rfl (by first | exact Or.inl rfl | exact Or.inr rfl)) (pgs_cons (pg_name (i := 4) sc_Passes_cells.nd rfl (by first | exact Or.inl rfl | exact Or.inr rfl)) (pgs_nil)))) (fun _ _ _ _ _ => pts_md1 (pm_cmpT (om_eq hr.u64) rM_ok (pm_op om_band rM_ok (pm_op om_shr rM_ok (pm_var (pv 1)) (pm_var (pv 3))) (pm_int)) (pm_int) (by rfl))) (fun _ _ _ _ _ => pm_var (pv 4))) (pma_nil))))
    (pms_nil)
noncomputable abbrev b_Passes_behind : SD := sCons (sSet 4 (mOp fBor (mVar 1) (mOp fShl (mC (.int 1)) (mVar 3))))
    (sCons (sRet (mTup (mCons (mVar 4) (mCons (mCall fTuple (mCons (mLcF finL (mSeq (mOp fAdd (mVar 2) (mTup (mCons (mVar 3) (mNil))))) (mgName 5) (mB (mOp fGt (mMeth [(("Passes" : Str), m_Passes_cells)] "cells" (mVar 0) (mCons (mVar 4) (mCons (mVar 5) (mNil)))) (mC (.int 0)))) (mVar 5) [5]) (mNil))) (mNil)))))
    (sNil))
noncomputable def m_Passes_behind : List D → Sto → Out D := mDef 6 4 b_Passes_behind
theorem d_Passes_behind {P : Program} {w : World} {K : PySem.W.Frag} {mg : Str → Option Value} {base : Heap} (T : Txt K mg) (F : MFun K "Passes" "behind" "Passes.behind" s_Passes_behind ["self", "done", "line", "step"]) (G_Passes_cells : MetAt P w K mg base "Passes" "cells" 1 ["self", "done", "giver"] m_Passes_cells) : MetAt P w K mg base "Passes" "behind" 2 ["self", "done", "line", "step"] m_Passes_behind :=
  metAt (N := n_Passes_behind) (ms := b_Passes_behind) F sc_Passes_behind (.inl rfl) fun f cdv A outer s H E hr =>
    pms_cons (pms_set (i := 4) sc_Passes_behind.nd rfl (by first | exact Or.inl rfl | exact Or.inr rfl) (pm_op om_bor rM_ok (pm_var (pv 1)) (pm_op om_shl rM_ok (pm_int) (pm_var (pv 3)))))
    (pms_cons (pms_ret (pm_tup (pma_cons (pm_var (pv 4)) (pma_cons (pm_callTy cm_tuple (by rfl) T.z_tuple Md.boot_tuple (pma_cons (pm_lc (own := [("giver", 5)]) (.inl rfl) rfl sc_Passes_behind.nd (pmi_seq (pm_op om_add rM_ok (pm_var (pv 2)) (pm_tup (pma_cons (pm_var (pv 3)) (pma_nil))))) (blkOk_by (N := n_Passes_behind) (sc := defScope s_Passes_behind) (by decide +kernel)) (tg_name) (by decide) (fun _ _ _ _ _ => pg_name (i := 5) sc_Passes_behind.nd rfl (by first | exact Or.inl rfl | exact Or.inr rfl)) (fun _ _ _ _ _ => pts_md1 (pm_cmpT om_gt rM_ok (pm_meth (k := 1) (metTab_cons G_Passes_cells (by decide) (metTab_nil)) hr (by decide) takes0 (pm_var (pv 0)) (pma_cons (pm_var (pv 4)) (pma_cons (pm_var (pv 5)) (pma_nil)))) (pm_int) (by rfl))) (fun _ _ _ _ _ => pm_var (pv 5))) (pma_nil))) (pma_nil)))))
    (pms_nil))
noncomputable abbrev b_Passes_finds : SD := sCons (sSet 4 (mCall fDict (mCons (mOp fIx (mFld [("Passes" : Str)] "wants" (mVar 0)) (mVar 3)) (mNil))))
    (sCons (sFor (mSeq (mIf (mTru (mFld [("Passes" : Str)] "is_queue" (mVar 0))) (mVar 2) (mRevG (mVar 2)))) (mgName 5)
    (sCons (sIf (mB (mOp fEqD0 (mVar 4) (mEdc)))
    (sCons (sRet (mC (.bl true)))
    (sNil))
    (sNil))
    (sCons (sSet 6 (mMet "dict" fPopD (mVar 4) (mCons (mVar 5) (mCons (mC (.int 0)) (mNil)))))
    (sCons (sIf (mOr (mB (mOp fEq (mVar 6) (mC (.int 0)))) (mAnd (mB (mOp fLt (mVar 6) (mMeth [(("Passes" : Str), m_Passes_cells)] "cells" (mVar 0) (mCons (mVar 1) (mCons (mVar 5) (mNil)))))) (mB (mOp fNeD0 (mVar 4) (mEdc)))))
    (sCons (sRet (mC (.bl false)))
    (sNil))
    (sNil))
    (sNil)))))
    (sCons (sRet (mOp fEqD0 (mVar 4) (mEdc)))
    (sNil)))
noncomputable def m_Passes_finds : List D → Sto → Out D := mDef 7 4 b_Passes_finds
theorem d_Passes_finds {P : Program} {w : World} {K : PySem.W.Frag} {mg : Str → Option Value} {base : Heap} (T : Txt K mg) (F : MFun K "Passes" "finds" "Passes.finds" s_Passes_finds ["self", "done", "line", "step"]) (G_Passes_cells : MetAt P w K mg base "Passes" "cells" 1 ["self", "done", "giver"] m_Passes_cells) : MetAt P w K mg base "Passes" "finds" 2 ["self", "done", "line", "step"] m_Passes_finds :=
  metAt (N := n_Passes_finds) (ms := b_Passes_finds) F sc_Passes_finds (.inl rfl) fun f cdv A outer s H E hr =>
    pms_cons (pms_set (i := 4) sc_Passes_finds.nd rfl (by first | exact Or.inl rfl | exact Or.inr rfl) (pm_callTy cm_dict (by rfl) T.z_dict Md.boot_dict (pma_cons (pm_ix hr.u1 (pm_fld (cs := [("Passes" : Str)]) (pm_var (pv 0)) T.fl_wants) (pm_var (pv 3))) (pma_nil))))
    (pms_cons (pms_for (passes_of rfl) rfl (pmi_seq (pm_if (pm_tru (pm_fld (cs := [("Passes" : Str)]) (pm_var (pv 0)) T.fl_is_queue)) (pm_var (pv 2)) (pm_revG (pm_var (pv 2))))) (pg_name (i := 5) sc_Passes_finds.nd rfl (by first | exact Or.inl rfl | exact Or.inr rfl)) (tg_name)
    (pms_cons (pms_if (pm_cmpT (om_eqD0 hr.u0) rM_ok (pm_var (pv 4)) (pm_edc) (by rfl))
    (pms_cons (pms_ret (pm_bl))
    (pms_nil))
    (pms_nil))
    (pms_cons (pms_set (i := 6) sc_Passes_finds.nd rfl (by first | exact Or.inl rfl | exact Or.inr rfl) (pm_bm PySem.F.plainAttrs_dict PySem.F.slot_dict_pop PySem.F.type_dict_pop mm_popD (pm_var (pv 4)) (pma_cons (pm_var (pv 5)) (pma_cons (pm_int) (pma_nil)))))
    (pms_cons (pms_if (PW.pt (pmw_or (pm_cmpT (om_eq hr.u64) rM_ok (pm_var (pv 6)) (pm_int) (by rfl)) (pmw_or1 (PW.pt (pmw_and (pm_cmpT om_lt rM_ok (pm_var (pv 6)) (pm_meth (k := 1) (metTab_cons G_Passes_cells (by decide) (metTab_nil)) hr (by decide) takesG (pm_var (pv 0)) (pma_cons (pm_var (pv 1)) (pma_cons (pm_var (pv 5)) (pma_nil)))) (by rfl)) (pmw_and1 (pm_cmpT (om_neD0 hr.u0) rM_ok (pm_var (pv 4)) (pm_edc) (by rfl))))))))
    (pms_cons (pms_ret (pm_bl))
    (pms_nil))
    (pms_nil))
    (pms_nil)))))
    (pms_cons (pms_ret (pm_cmp (om_eqD0 hr.u0) rM_ok (pm_var (pv 4)) (pm_edc) (by rfl)))
    (pms_nil)))
noncomputable abbrev b_Passes_nexts : SD := sCons (sSet 3 (mLcF finL (mRng1 (mCons (mFld [("Passes" : Str)] "many" (mVar 0)) (mNil))) (mgName 4) (mAnd (mB (mOp fEq (mOp fBand (mOp fShr (mVar 1) (mVar 4)) (mC (.int 1))) (mC (.int 0)))) (mTru (mMeth [(("Passes" : Str), m_Passes_finds)] "finds" (mVar 0) (mCons (mVar 1) (mCons (mVar 2) (mCons (mVar 4) (mNil))))))) (mVar 4) [4]))
    (sCons (sRet (mLcF finL (mSeq (mVar 3)) (mgName 4) (mYes) (mTup (mCons (mVar 4) (mCons (mMeth [(("Passes" : Str), m_Passes_behind)] "behind" (mVar 0) (mCons (mVar 1) (mCons (mVar 2) (mCons (mVar 4) (mNil))))) (mNil)))) [4]))
    (sNil))
noncomputable def m_Passes_nexts : List D → Sto → Out D := mDef 5 3 b_Passes_nexts
theorem d_Passes_nexts {P : Program} {w : World} {K : PySem.W.Frag} {mg : Str → Option Value} {base : Heap} (T : Txt K mg) (F : MFun K "Passes" "nexts" "Passes.nexts" s_Passes_nexts ["self", "done", "line"]) (G_Passes_behind : MetAt P w K mg base "Passes" "behind" 2 ["self", "done", "line", "step"] m_Passes_behind) (G_Passes_finds : MetAt P w K mg base "Passes" "finds" 2 ["self", "done", "line", "step"] m_Passes_finds) : MetAt P w K mg base "Passes" "nexts" 3 ["self", "done", "line"] m_Passes_nexts :=
  metAt (N := n_Passes_nexts) (ms := b_Passes_nexts) F sc_Passes_nexts (.inl rfl) fun f cdv A outer s H E hr =>
    pms_cons (pms_setLc (own := [("step", 4)]) (.inl rfl) rfl sc_Passes_nexts.nd rfl rfl (sw_true rfl rfl rfl rfl) (pmi_rng1 (by rfl) T.z_range (pma_cons (pm_fld (cs := [("Passes" : Str)]) (pm_var (pv 0)) T.fl_many) (pma_nil))) (blkOk_by (N := n_Passes_nexts) (sc := defScope s_Passes_nexts) (by decide +kernel)) (tg_name) (by decide) (fun _ _ _ _ _ => pg_name (i := 4) sc_Passes_nexts.nd rfl (by first | exact Or.inl rfl | exact Or.inr rfl)) (fun _ _ _ _ _ => pts_md1 (PW.pt (pmw_and (pm_cmpT (om_eq hr.u64) rM_ok (pm_op om_band rM_ok (pm_op om_shr rM_ok (pm_var (pv 1)) (pm_var (pv 4))) (pm_int)) (pm_int) (by rfl)) (pmw_and1 (pm_tru (pm_meth (k := 2) (metTab_cons G_Passes_finds (by decide) (metTab_nil)) hr (by decide) takes0 (pm_var (pv 0)) (pma_cons (pm_var (pv 1)) (pma_cons (pm_var (pv 2)) (pma_cons (pm_var (pv 4)) (pma_nil)))))))))) (fun _ _ _ _ _ => pm_var (pv 4)))
    (pms_cons (pms_ret (pm_lc (own := [("step", 4)]) (.inl rfl) rfl sc_Passes_nexts.nd (pmi_seq (pm_var (pv 3))) (blkOk_by (N := n_Passes_nexts) (sc := defScope s_Passes_nexts) (by decide +kernel)) (tg_name) (by decide) (fun _ _ _ _ _ => pg_name (i := 4) sc_Passes_nexts.nd rfl (by first | exact Or.inl rfl | exact Or.inr rfl)) (fun _ _ _ _ _ => pts_md0 rfl) (fun _ _ _ _ _ => pm_tup (pma_cons (pm_var (pv 4)) (pma_cons (pm_meth (k := 2) (metTab_cons G_Passes_behind (by decide) (metTab_nil)) hr (by decide) takes0 (pm_var (pv 0)) (pma_cons (pm_var (pv 1)) (pma_cons (pm_var (pv 2)) (pma_cons (pm_var (pv 4)) (pma_nil))))) (pma_nil))))))
    (pms_nil))
noncomputable abbrev b_Passes_ways (rec : List D → Sto → Out D) : SD := sCons (sIf (mTru (mMeth [(("Passes" : Str), m_Passes_is_done)] "is_done" (mVar 0) (mCons (mVar 1) (mNil))))
    (sCons (sRet (mC (.int 1)))
    (sNil))
    (sNil))
    (sCons (sIf (mB (mOp fNotInN (mTup (mCons (mVar 1) (mCons (mVar 2) (mNil)))) (mFld [("Passes" : Str)] "known" (mVar 0))))
    (sCons (sSet 3 (mCall fSum (mCons (mLcF finL (mSeq (mMeth [(("Passes" : Str), m_Passes_nexts)] "nexts" (mVar 0) (mCons (mVar 1) (mCons (mVar 2) (mNil))))) (mgTup 2 (mgCons (mgName 4) (mgCons (mgTup 2 (mgCons (mgName 5) (mgCons (mgName 6) (mgNil)))) (mgNil)))) (mYes) (mMeth [(("Passes" : Str), rec)] "ways" (mVar 0) (mCons (mVar 5) (mCons (mVar 6) (mNil)))) [4, 5, 6]) (mNil))))
    (sCons (sSubN (mFld [("Passes" : Str)] "known" (mVar 0)) (mTup (mCons (mVar 1) (mCons (mVar 2) (mNil)))) (mVar 3))
    (sNil)))
    (sNil))
    (sCons (sRet (mOp fIxN (mFld [("Passes" : Str)] "known" (mVar 0)) (mTup (mCons (mVar 1) (mCons (mVar 2) (mNil))))))
    (sNil)))
noncomputable def m_Passes_ways : Nat → List D → Sto → Out D
  | 0 => mNone
  | n + 1 => mDef 7 3 (b_Passes_ways (m_Passes_ways n))
theorem d_Passes_ways {P : Program} {w : World} {K : PySem.W.Frag} {mg : Str → Option Value} {base : Heap} (T : Txt K mg) (F : MFun K "Passes" "ways" "Passes.ways" s_Passes_ways ["self", "done", "line"]) (G_Passes_is_done : MetAt P w K mg base "Passes" "is_done" 1 ["self", "done"] m_Passes_is_done) (G_Passes_nexts : MetAt P w K mg base "Passes" "nexts" 3 ["self", "done", "line"] m_Passes_nexts) : ∀ n : Nat, MetAt P w K mg base "Passes" "ways" (4 + n) ["self", "done", "line"] (m_Passes_ways n)
  | 0 => metAt0 F
  | n + 1 => by
   have IH := d_Passes_ways (P := P) (w := w) (base := base) T F G_Passes_is_done G_Passes_nexts n
   generalize hrec : m_Passes_ways n = rec at IH
   have e : m_Passes_ways (n + 1) = mDef 7 3 (b_Passes_ways rec) := by rw [← hrec]; rfl
   rw [e]
   exact metAt (k := 4 + n) (N := n_Passes_ways) (ms := b_Passes_ways rec) F sc_Passes_ways (.inl rfl) fun f cdv A outer s H E hr =>
    pms_cons (pms_if (pm_tru (pm_meth (k := 1) (metTab_cons G_Passes_is_done (by decide) (metTab_nil)) hr (by omega) takesG (pm_var (pv 0)) (pma_cons (pm_var (pv 1)) (pma_nil))))
    (pms_cons (pms_ret (pm_int))
    (pms_nil))
    (pms_nil))
    (pms_cons (pms_if (pm_cmpT (om_notInN hr.u65) rM_ok (pm_tup (pma_cons (pm_var (pv 1)) (pma_cons (pm_var (pv 2)) (pma_nil)))) (pm_fld (cs := [("Passes" : Str)]) (pm_var (pv 0)) T.fl_known) (by rfl))
    (pms_cons (pms_set (i := 3) sc_Passes_ways.nd rfl (by first | exact Or.inl rfl | exact Or.inr rfl) (pm_callB (cm_sum rfl) (by rfl) T.z_sum Md.boot_sum (pma_cons (pm_lc (own := [("step", 4), ("later", 5), ("behind", 6)]) (.inl rfl) rfl sc_Passes_ways.nd (pmi_seq (pm_meth (k := 3) (metTab_cons G_Passes_nexts (by decide) (metTab_nil)) hr (by omega) takesG (pm_var (pv 0)) (pma_cons (pm_var (pv 1)) (pma_cons (pm_var (pv 2)) (pma_nil))))) (blkOk_by (N := n_Passes_ways) (sc := defScope s_Passes_ways) (by decide +kernel)) (tg_tup (tgs_cons (tg_name) (tgs_cons (tg_tup (tgs_cons (tg_name) (tgs_cons (tg_name) (tgs_nil)))) (tgs_nil)))) (by decide) (fun _ _ _ _ _ => pg_tup rfl (pgs_cons (pg_name (i := 4) sc_Passes_ways.nd rfl (by first | exact Or.inl rfl | exact Or.inr rfl)) (pgs_cons (pg_tup rfl (pgs_cons (pg_name (i := 5) sc_Passes_ways.nd rfl (by first | exact Or.inl rfl | exact Or.inr rfl)) (pgs_cons (pg_name (i := 6) sc_Passes_ways.nd rfl (by first | exact Or.inl rfl | exact Or.inr rfl)) (pgs_nil)))) (pgs_nil)))) (fun _ _ _ _ _ => pts_md0 rfl) (fun _ _ _ _ _ => pm_meth (k := 4 + n) (metTab_cons IH (by omega) (metTab_nil)) hr (by omega) takes0 (pm_var (pv 0)) (pma_cons (pm_var (pv 5)) (pma_cons (pm_var (pv 6)) (pma_nil))))) (pma_nil))))
    (pms_cons (pms_subN hr.u65 (pm_fld (cs := [("Passes" : Str)]) (pm_var (pv 0)) T.fl_known) (pm_tup (pma_cons (pm_var (pv 1)) (pma_cons (pm_var (pv 2)) (pma_nil)))) (pm_var (pv 3)))
    (pms_nil)))
    (pms_nil))
    (pms_cons (pms_ret (pm_ixN hr.u65 (pm_fld (cs := [("Passes" : Str)]) (pm_var (pv 0)) T.fl_known) (pm_tup (pma_cons (pm_var (pv 1)) (pma_cons (pm_var (pv 2)) (pma_nil))))))
    (pms_nil)))
noncomputable abbrev b_Passes_orders : SD := sCons (sPl (sSet 1 (mLstO (mCons (mTup (mCons (mTup (mNil)) (mCons (mTup (mCons (mC (.int 0)) (mCons (mTup (mNil)) (mNil)))) (mNil)))) (mNil)))))
    (sCons (sWhile (mB (mOp fNe (mVar 1) (mLst (mNil))))
    (sCons (sPl (sAsg (mgTup 2 (mgCons (mgName 2) (mgCons (mgTup 2 (mgCons (mgName 3) (mgCons (mgName 4) (mgNil)))) (mgNil)))) (mMet "list" fPop (mVar 1) mNil)))
    (sCons (sIf (mTru (mMeth [(("Passes" : Str), m_Passes_is_done)] "is_done" (mVar 0) (mCons (mVar 3) (mNil))))
    (sCons (sRet (mVar 2))
    (sNil))
    (sCons (sPl (sSet 5 (mLcF finL (mSeq (mMeth [(("Passes" : Str), m_Passes_nexts)] "nexts" (mVar 0) (mCons (mVar 3) (mCons (mVar 4) (mNil))))) (mgName 6) (mB (mOp fGt (mMeth [(("Passes" : Str), (m_Passes_ways 12))] "ways" (mVar 0) (mCons (mOp fIx (mOp fIx (mVar 6) (mC (.int 1))) (mC (.int 0))) (mCons (mOp fIx (mOp fIx (mVar 6) (mC (.int 1))) (mC (.int 1))) (mNil)))) (mC (.int 0)))) (mVar 6) [6])))
    (sCons (sPl (sExpr (mMet "list" fExtend (mVar 1) (mCons (mLcF finL (mSeq (mRevG (mVar 5))) (mgTup 2 (mgCons (mgName 7) (mgCons (mgName 8) (mgNil)))) (mYes) (mTup (mCons (mOp fAdd (mVar 2) (mTup (mCons (mVar 7) (mNil)))) (mCons (mVar 8) (mNil)))) [7, 8]) (mNil)))))
    (sNil))))
    (sNil))) fuel)
    (sNil))
noncomputable def m_Passes_orders : List D → Sto → Out (Option D) := mGen1 9 1 b_Passes_orders
theorem d_Passes_orders {P : Program} {w : World} {K : PySem.W.Frag} {mg : Str → Option Value} {base : Heap} (T : Txt K mg) (F : MFun K "Passes" "orders" "Passes.orders" s_Passes_orders ["self"]) (G_Passes_is_done : MetAt P w K mg base "Passes" "is_done" 1 ["self", "done"] m_Passes_is_done) (G_Passes_nexts : MetAt P w K mg base "Passes" "nexts" 3 ["self", "done", "line"] m_Passes_nexts) (G_Passes_ways : MetAt P w K mg base "Passes" "ways" 16 ["self", "done", "line"] (m_Passes_ways 12)) : GenAt P w K mg base "Passes" "orders" 17 ["self"] m_Passes_orders :=
  genAt (N := n_Passes_orders) (ms := b_Passes_orders) F sc_Passes_orders rfl fun f cdv A outer s H pn hr =>
    g1s_cons (g1_pl (pms_set (i := 1) sc_Passes_orders.nd rfl (by first | exact Or.inl rfl | exact Or.inr rfl) (pm_lstO (pma_cons (pm_tup (pma_cons (pm_tup (pma_nil)) (pma_cons (pm_tup (pma_cons (pm_int) (pma_cons (pm_tup (pma_nil)) (pma_nil)))) (pma_nil)))) (pma_nil)))))
    (g1s_cons (g1_while fuel (owns_gcx) (pm_cmpT (om_ne hr.u64) rM_ok (pm_var (pv 1)) (pm_lst (pma_nil)) (by rfl))
    (g1s_cons (g1_pl (pms_asg (pm_bm0 PySem.F.plainAttrs_list PySem.F.slot_list_pop PySem.F.type_list_pop mm_pop (pm_var (pv 1))) (pg_tup rfl (pgs_cons (pg_name (i := 2) sc_Passes_orders.nd rfl (by first | exact Or.inl rfl | exact Or.inr rfl)) (pgs_cons (pg_tup rfl (pgs_cons (pg_name (i := 3) sc_Passes_orders.nd rfl (by first | exact Or.inl rfl | exact Or.inr rfl)) (pgs_cons (pg_name (i := 4) sc_Passes_orders.nd rfl (by first | exact Or.inl rfl | exact Or.inr rfl)) (pgs_nil)))) (pgs_nil)))) (tg_tup (tgs_cons (tg_name) (tgs_cons (tg_tup (tgs_cons (tg_name) (tgs_cons (tg_name) (tgs_nil)))) (tgs_nil))))))
    (g1s_cons (g1_if (pm_tru (pm_meth (k := 1) (metTab_cons G_Passes_is_done (by decide) (metTab_nil)) hr (by decide) takes_gcx (pm_var (pv 0)) (pma_cons (pm_var (pv 3)) (pma_nil))))
    (g1s_cons (g1_yield (pm_var (pv 2)))
    (g1s_nil))
    (g1s_cons (g1_pl (pms_setLc (own := [("pair", 6)]) (.inl rfl) rfl sc_Passes_orders.nd rfl rfl (sw_true rfl rfl rfl rfl) (pmi_seq (pm_meth (k := 3) (metTab_cons G_Passes_nexts (by decide) (metTab_nil)) hr (by decide) takes_gcx (pm_var (pv 0)) (pma_cons (pm_var (pv 3)) (pma_cons (pm_var (pv 4)) (pma_nil))))) (blkOk_by (N := n_Passes_orders) (sc := defScope s_Passes_orders) (by decide +kernel)) (tg_name) (by decide) (fun _ _ _ _ _ => pg_name (i := 6) sc_Passes_orders.nd rfl (by first | exact Or.inl rfl | exact Or.inr rfl)) (fun _ _ _ _ _ => pts_md1 (pm_cmpT om_gt rM_ok (pm_meth (k := 16) (metTab_cons G_Passes_ways (by decide) (metTab_nil)) hr (by decide) takes0 (pm_var (pv 0)) (pma_cons (pm_ix hr.u1 (pm_ix hr.u1 (pm_var (pv 6)) (pm_int)) (pm_int)) (pma_cons (pm_ix hr.u1 (pm_ix hr.u1 (pm_var (pv 6)) (pm_int)) (pm_int)) (pma_nil)))) (pm_int) (by rfl))) (fun _ _ _ _ _ => pm_var (pv 6))))
    (g1s_cons (g1_pl (pms_expr (pm_bm PySem.F.plainAttrs_list PySem.F.slot_list_extend PySem.F.type_list_extend mm_extend (pm_var (pv 1)) (pma_cons (pm_lc (own := [("step", 7), ("standing", 8)]) (.inl rfl) rfl sc_Passes_orders.nd (pmi_seq (pm_revG (pm_var (pv 5)))) (blkOk_by (N := n_Passes_orders) (sc := defScope s_Passes_orders) (by decide +kernel)) (tg_tup (tgs_cons (tg_name) (tgs_cons (tg_name) (tgs_nil)))) (by decide) (fun _ _ _ _ _ => pg_tup rfl (pgs_cons (pg_name (i := 7) sc_Passes_orders.nd rfl (by first | exact Or.inl rfl | exact Or.inr rfl)) (pgs_cons (pg_name (i := 8) sc_Passes_orders.nd rfl (by first | exact Or.inl rfl | exact Or.inr rfl)) (pgs_nil)))) (fun _ _ _ _ _ => pts_md0 rfl) (fun _ _ _ _ _ => pm_tup (pma_cons (pm_op om_add rM_ok (pm_var (pv 2)) (pm_tup (pma_cons (pm_var (pv 7)) (pma_nil)))) (pma_cons (pm_var (pv 8)) (pma_nil))))) (pma_nil)))))
    (g1s_nil))))
    (g1s_nil))))
    (g1s_nil))
noncomputable abbrev b_Passes_first_order : SD := sCons (sFirst "Passes" "orders" m_Passes_orders (mVar 0))
    (sCons (sRet (mC .non))
    (sNil))
noncomputable def m_Passes_first_order : List D → Sto → Out D := mDef 2 1 b_Passes_first_order
theorem d_Passes_first_order {P : Program} {w : World} {K : PySem.W.Frag} {mg : Str → Option Value} {base : Heap} (T : Txt K mg) (F : MFun K "Passes" "first_order" "Passes.first_order" s_Passes_first_order ["self"]) (G_Passes_orders : GenAt P w K mg base "Passes" "orders" 17 ["self"] m_Passes_orders) : MetAt P w K mg base "Passes" "first_order" 20 ["self"] m_Passes_first_order :=
  metAt (N := n_Passes_first_order) (ms := b_Passes_first_order) F sc_Passes_first_order (.inl rfl) fun f cdv A outer s H E hr =>
    pms_cons (pms_first (i := 1) G_Passes_orders rfl hr (by decide) (passes_of rfl) (pm_var (pv 0)) sc_Passes_first_order.nd rfl (pg_name (i := 1) sc_Passes_first_order.nd rfl (by first | exact Or.inl rfl | exact Or.inr rfl)) (pv 1))
    (pms_cons (pms_ret (pm_non))
    (pms_nil))
noncomputable abbrev b_ties : SD := sCons (sSet 1 (mLstO (mNil)))
    (sCons (sFor (mEnumA (mCons (mVar 0) (mNil))) (mgTup 2 (mgCons (mgName 2) (mgCons (mgTup 2 (mgCons (mgName 3) (mgCons (mgName 4) (mgNil)))) (mgNil))))
    (sCons (sExpr (mMet "list" fExtend (mVar 1) (mCons (mLcF finL (mEnumA (mCons (mVar 4) (mNil))) (mgTup 2 (mgCons (mgName 5) (mgCons (mgName 6) (mgNil)))) (mYes) (mTup (mCons (mVar 6) (mCons (mVar 2) (mCons (mVar 5) (mNil))))) [5, 6]) (mNil))))
    (sNil)))
    (sCons (sRet (mCall fTuple (mCons (mCall fSorted (mCons (mVar 1) (mNil))) (mNil))))
    (sNil)))
noncomputable def m_ties : List D → Sto → Out D := mDef 7 1 b_ties
theorem d_ties {P : Program} {w : World} {K : PySem.W.Frag} {mg : Str → Option Value} {base : Heap} (T : Txt K mg) (F : FunAt K mg "ties" s_ties ["web"])  : DefAt P w K mg base "ties" 1 ["web"] m_ties :=
  defAt (N := n_ties) (ms := b_ties) F sc_ties (.inl rfl) fun f cdv A outer s H E hr =>
    pms_cons (pms_set (i := 1) sc_ties.nd rfl (by first | exact Or.inl rfl | exact Or.inr rfl) (pm_lstO (pma_nil)))
    (pms_cons (pms_for (passes_of rfl) rfl (pmi_enumA (by rfl) T.z_enumerate (pma_cons (pm_var (pv 0)) (pma_nil))) (pg_tup rfl (pgs_cons (pg_name (i := 2) sc_ties.nd rfl (by first | exact Or.inl rfl | exact Or.inr rfl)) (pgs_cons (pg_tup rfl (pgs_cons (pg_name (i := 3) sc_ties.nd rfl (by first | exact Or.inl rfl | exact Or.inr rfl)) (pgs_cons (pg_name (i := 4) sc_ties.nd rfl (by first | exact Or.inl rfl | exact Or.inr rfl)) (pgs_nil)))) (pgs_nil)))) (tg_tup (tgs_cons (tg_name) (tgs_cons (tg_tup (tgs_cons (tg_name) (tgs_cons (tg_name) (tgs_nil)))) (tgs_nil))))
    (pms_cons (pms_expr (pm_bm PySem.F.plainAttrs_list PySem.F.slot_list_extend PySem.F.type_list_extend mm_extend (pm_var (pv 1)) (pma_cons (pm_lc (own := [("place", 5), ("giver", 6)]) (.inl rfl) rfl sc_ties.nd (pmi_enumA (by rfl) T.z_enumerate (pma_cons (pm_var (pv 4)) (pma_nil))) (blkOk_by (N := n_ties) (sc := defScope s_ties) (by decide +kernel)) (tg_tup (tgs_cons (tg_name) (tgs_cons (tg_name) (tgs_nil)))) (by decide) (fun _ _ _ _ _ => pg_tup rfl (pgs_cons (pg_name (i := 5) sc_ties.nd rfl (by first | exact Or.inl rfl | exact Or.inr rfl)) (pgs_cons (pg_name (i := 6) sc_ties.nd rfl (by first | exact Or.inl rfl | exact Or.inr rfl)) (pgs_nil)))) (fun _ _ _ _ _ => pts_md0 rfl) (fun _ _ _ _ _ => pm_tup (pma_cons (pm_var (pv 6)) (pma_cons (pm_var (pv 2)) (pma_cons (pm_var (pv 5)) (pma_nil)))))) (pma_nil))))
    (pms_nil)))
    (pms_cons (pms_ret (pm_callTy cm_tuple (by rfl) T.z_tuple Md.boot_tuple (pma_cons (pm_callB (cm_sorted hr.u64) (by rfl) T.z_sorted Md.boot_sorted (pma_cons (pm_var (pv 1)) (pma_nil))) (pma_nil))))
    (pms_nil)))
noncomputable abbrev b_Passes___init__ : SD := sCons (sFldS [("Passes" : Str)] "many" (mVar 0) (mCall fLen (mCons (mVar 1) (mNil))))
    (sCons (sFldS [("Passes" : Str)] "is_queue" (mVar 0) (mVar 2))
    (sCons (sFldS [("Passes" : Str)] "uses" (mVar 0) (mLcF finL (mSeq (mVar 1)) (mgName 6) (mYes) (mDct0) [6]))
    (sCons (sFldS [("Passes" : Str)] "wants" (mVar 0) (mLcF finL (mSeq (mVar 1)) (mgName 6) (mYes) (mDct0) [6]))
    (sCons (sFor (mSeq (mFn m_ties (mCons (mVar 1) (mNil)))) (mgTup 3 (mgCons (mgName 3) (mgCons (mgName 4) (mgCons (mgName 5) (mgNil)))))
    (sCons (sSub (mOp fIx (mFld [("Passes" : Str)] "uses" (mVar 0)) (mVar 3)) (mVar 4) (mOp fAdd (mMet "dict" fGet (mOp fIx (mFld [("Passes" : Str)] "uses" (mVar 0)) (mVar 3)) (mCons (mVar 4) (mCons (mC (.int 0)) (mNil)))) (mC (.int 1))))
    (sCons (sSub (mOp fIx (mFld [("Passes" : Str)] "wants" (mVar 0)) (mVar 4)) (mVar 3) (mOp fAdd (mMet "dict" fGet (mOp fIx (mFld [("Passes" : Str)] "wants" (mVar 0)) (mVar 4)) (mCons (mVar 3) (mCons (mC (.int 0)) (mNil)))) (mC (.int 1))))
    (sNil))))
    (sCons (sFldS [("Passes" : Str)] "known" (mVar 0) (mDcn0))
    (sCons (sFldS [("Passes" : Str)] "peaks" (mVar 0) (mDcn0))
    (sNil)))))))
noncomputable def m_Passes___init__ : List D → Sto → Out D := mDefU 7 3 b_Passes___init__
theorem d_Passes___init__ {P : Program} {w : World} {K : PySem.W.Frag} {mg : Str → Option Value} {base : Heap} (T : Txt K mg) (F : IFun K mg "Passes" "Passes.__init__" s_Passes___init__ ["self", "web", "is_queue"]) (G_ties : DefAt P w K mg base "ties" 1 ["web"] m_ties) : MkAt P w K mg base "Passes" 2 ["self", "web", "is_queue"] m_Passes___init__ :=
  mkAt (N := n_Passes___init__) (ms := b_Passes___init__) F sc_Passes___init__ (.inr rfl) fun f cdv A outer s H E hr =>
    pms_cons (pms_fld (cs := [("Passes" : Str)]) (pm_var (pv 0)) (pm_callB cm_len (by rfl) T.z_len Md.boot_len (pma_cons (pm_var (pv 1)) (pma_nil))) T.fl_many)
    (pms_cons (pms_fld (cs := [("Passes" : Str)]) (pm_var (pv 0)) (pm_var (pv 2)) T.fl_is_queue)
    (pms_cons (pms_fld (cs := [("Passes" : Str)]) (pm_var (pv 0)) (pm_lc (own := [("step", 6)]) (.inl rfl) rfl sc_Passes___init__.nd (pmi_seq (pm_var (pv 1))) (blkOk_by (N := n_Passes___init__) (sc := defScope s_Passes___init__) (by decide +kernel)) (tg_name) (by decide) (fun _ _ _ _ _ => pg_name (i := 6) sc_Passes___init__.nd rfl (by first | exact Or.inl rfl | exact Or.inr rfl)) (fun _ _ _ _ _ => pts_md0 rfl) (fun _ _ _ _ _ => pm_dct0)) T.fl_uses)
    (pms_cons (pms_fld (cs := [("Passes" : Str)]) (pm_var (pv 0)) (pm_lc (own := [("step", 6)]) (.inl rfl) rfl sc_Passes___init__.nd (pmi_seq (pm_var (pv 1))) (blkOk_by (N := n_Passes___init__) (sc := defScope s_Passes___init__) (by decide +kernel)) (tg_name) (by decide) (fun _ _ _ _ _ => pg_name (i := 6) sc_Passes___init__.nd rfl (by first | exact Or.inl rfl | exact Or.inr rfl)) (fun _ _ _ _ _ => pts_md0 rfl) (fun _ _ _ _ _ => pm_dct0)) T.fl_wants)
    (pms_cons (pms_for (passes_of rfl) rfl (pmi_seq (pm_def G_ties hr (by decide) takesG (by rfl) (pma_cons (pm_var (pv 1)) (pma_nil)))) (pg_tup rfl (pgs_cons (pg_name (i := 3) sc_Passes___init__.nd rfl (by first | exact Or.inl rfl | exact Or.inr rfl)) (pgs_cons (pg_name (i := 4) sc_Passes___init__.nd rfl (by first | exact Or.inl rfl | exact Or.inr rfl)) (pgs_cons (pg_name (i := 5) sc_Passes___init__.nd rfl (by first | exact Or.inl rfl | exact Or.inr rfl)) (pgs_nil))))) (tg_tup (tgs_cons (tg_name) (tgs_cons (tg_name) (tgs_cons (tg_name) (tgs_nil)))))
    (pms_cons (pms_sub hr.u1 (pm_ix hr.u1 (pm_fld (cs := [("Passes" : Str)]) (pm_var (pv 0)) T.fl_uses) (pm_var (pv 3))) (pm_var (pv 4)) (pm_op om_add rM_ok (pm_bm PySem.F.plainAttrs_dict PySem.F.slot_dict_get PySem.F.type_dict_get (mm_get hr.u1) (pm_ix hr.u1 (pm_fld (cs := [("Passes" : Str)]) (pm_var (pv 0)) T.fl_uses) (pm_var (pv 3))) (pma_cons (pm_var (pv 4)) (pma_cons (pm_int) (pma_nil)))) (pm_int)))
    (pms_cons (pms_sub hr.u1 (pm_ix hr.u1 (pm_fld (cs := [("Passes" : Str)]) (pm_var (pv 0)) T.fl_wants) (pm_var (pv 4))) (pm_var (pv 3)) (pm_op om_add rM_ok (pm_bm PySem.F.plainAttrs_dict PySem.F.slot_dict_get PySem.F.type_dict_get (mm_get hr.u1) (pm_ix hr.u1 (pm_fld (cs := [("Passes" : Str)]) (pm_var (pv 0)) T.fl_wants) (pm_var (pv 4))) (pma_cons (pm_var (pv 3)) (pma_cons (pm_int) (pma_nil)))) (pm_int)))
    (pms_nil))))
    (pms_cons (pms_fld (cs := [("Passes" : Str)]) (pm_var (pv 0)) (pm_dcn0) T.fl_known)
    (pms_cons (pms_fld (cs := [("Passes" : Str)]) (pm_var (pv 0)) (pm_dcn0) T.fl_peaks)
    (pms_nil)))))))
noncomputable abbrev b_order_of : SD := sCons (sRet (mMeth [(("Passes" : Str), m_Passes_first_order)] "first_order" (mMake "Passes" m_Passes___init__ (mCons (mVar 0) (mCons (mC (.bl false)) (mNil)))) mNil))
    (sNil)
noncomputable def m_order_of : List D → Sto → Out D := mDefU 1 1 b_order_of
theorem d_order_of {P : Program} {w : World} {K : PySem.W.Frag} {mg : Str → Option Value} {base : Heap} (T : Txt K mg) (F : FunAt K mg "order_of" s_order_of ["web"]) (G_Passes_first_order : MetAt P w K mg base "Passes" "first_order" 20 ["self"] m_Passes_first_order) (G_Passes___init__ : MkAt P w K mg base "Passes" 2 ["self", "web", "is_queue"] m_Passes___init__) : DefAt P w K mg base "order_of" 21 ["web"] m_order_of :=
  defAt (N := n_order_of) (ms := b_order_of) F sc_order_of (.inr rfl) fun f cdv A outer s H E hr =>
    pms_cons (pms_ret (pm_meth0 (k := 20) (metTab_cons G_Passes_first_order (by decide) (metTab_nil)) hr (by decide) takesG (pm_make G_Passes___init__ hr (by decide) takesG (by rfl) (pma_cons (pm_var (pv 0)) (pma_cons (pm_bl) (pma_nil))))))
    (pms_nil)
noncomputable abbrev b_heights : SD := sCons (sPar 2 3 (mCons (mLstO (mNil)) (mCons (mC (.int 0)) mNil)))
    (sCons (sSet 4 (mDc (mEnumA (mCons (mVar 1) (mNil))) (mgTup 2 (mgCons (mgName 5) (mgCons (mgName 6) (mgNil)))) (mYes) (mVar 6) (mVar 5) [5, 6]))
    (sCons (sFor (mRng1 (mCons (mCall fLen (mCons (mVar 1) (mNil))) (mNil))) (mgName 5)
    (sCons (sSet 3 (mOp fAdd (mVar 3) (mCall fLen (mCons (mLcF finL (mSeq (mFn m_ties (mCons (mVar 0) (mNil)))) (mgName 7) (mB (mOp fEq (mOp fIx (mVar 4) (mOp fIx (mVar 7) (mC (.int 0)))) (mVar 5))) (mC (.int 1)) [7]) (mNil)))))
    (sCons (sSet 3 (mOp fSub (mVar 3) (mCall fLen (mCons (mLcF finL (mSeq (mFn m_ties (mCons (mVar 0) (mNil)))) (mgName 7) (mB (mOp fEq (mOp fIx (mVar 4) (mOp fIx (mVar 7) (mC (.int 1)))) (mVar 5))) (mC (.int 1)) [7]) (mNil)))))
    (sCons (sExpr (mMet "list" fAppend (mVar 2) (mCons (mVar 3) (mNil))))
    (sNil)))))
    (sCons (sRet (mCall fTuple (mCons (mVar 2) (mNil))))
    (sNil))))
noncomputable def m_heights : List D → Sto → Out D := mDef 8 2 b_heights
theorem d_heights {P : Program} {w : World} {K : PySem.W.Frag} {mg : Str → Option Value} {base : Heap} (T : Txt K mg) (F : FunAt K mg "heights" s_heights ["web", "order"]) (G_ties : DefAt P w K mg base "ties" 1 ["web"] m_ties) : DefAt P w K mg base "heights" 2 ["web", "order"] m_heights :=
  defAt (N := n_heights) (ms := b_heights) F sc_heights (.inl rfl) fun f cdv A outer s H E hr =>
    pms_cons (pms_par (i := 2) (j := 3) rfl sc_heights.nd rfl rfl (by decide) rfl rfl (pma_cons (pm_lstO (pma_nil)) (pma_cons (pm_int) pma_nil)) rfl)
    (pms_cons (pms_set (i := 4) sc_heights.nd rfl (by first | exact Or.inl rfl | exact Or.inr rfl) (pm_dc (own := [("place", 5), ("step", 6)]) rfl sc_heights.nd (pmi_enumA (by rfl) T.z_enumerate (pma_cons (pm_var (pv 1)) (pma_nil))) (blkOk_by (N := n_heights) (sc := defScope s_heights) (by decide +kernel)) (tg_tup (tgs_cons (tg_name) (tgs_cons (tg_name) (tgs_nil)))) (by decide) (fun _ _ _ _ _ => pg_tup rfl (pgs_cons (pg_name (i := 5) sc_heights.nd rfl (by first | exact Or.inl rfl | exact Or.inr rfl)) (pgs_cons (pg_name (i := 6) sc_heights.nd rfl (by first | exact Or.inl rfl | exact Or.inr rfl)) (pgs_nil)))) (fun _ _ _ _ _ => pts_p0) (fun _ _ _ _ _ => pm_var (pv 6)) (fun _ _ _ _ _ => pm_var (pv 5))))
    (pms_cons (pms_for (passes_of rfl) rfl (pmi_rng1 (by rfl) T.z_range (pma_cons (pm_callB cm_len (by rfl) T.z_len Md.boot_len (pma_cons (pm_var (pv 1)) (pma_nil))) (pma_nil))) (pg_name (i := 5) sc_heights.nd rfl (by first | exact Or.inl rfl | exact Or.inr rfl)) (tg_name)
    (pms_cons (pms_set (i := 3) sc_heights.nd rfl (by first | exact Or.inl rfl | exact Or.inr rfl) (pm_op om_add rM_ok (pm_var (pv 3)) (pm_callB cm_len (by rfl) T.z_len Md.boot_len (pma_cons (pm_lc (own := [("tie", 7)]) (.inl rfl) rfl sc_heights.nd (pmi_seq (pm_def G_ties hr (by decide) takesG (by rfl) (pma_cons (pm_var (pv 0)) (pma_nil)))) (blkOk_by (N := n_heights) (sc := defScope s_heights) (by decide +kernel)) (tg_name) (by decide) (fun _ _ _ _ _ => pg_name (i := 7) sc_heights.nd rfl (by first | exact Or.inl rfl | exact Or.inr rfl)) (fun _ _ _ _ _ => pts_md1 (pm_cmpT (om_eq hr.u64) rM_ok (pm_ix hr.u1 (pm_var (pv 4)) (pm_ix hr.u1 (pm_var (pv 7)) (pm_int))) (pm_var (pv 5)) (by rfl))) (fun _ _ _ _ _ => pm_int)) (pma_nil)))))
    (pms_cons (pms_set (i := 3) sc_heights.nd rfl (by first | exact Or.inl rfl | exact Or.inr rfl) (pm_op om_sub rM_ok (pm_var (pv 3)) (pm_callB cm_len (by rfl) T.z_len Md.boot_len (pma_cons (pm_lc (own := [("tie", 7)]) (.inl rfl) rfl sc_heights.nd (pmi_seq (pm_def G_ties hr (by decide) takesG (by rfl) (pma_cons (pm_var (pv 0)) (pma_nil)))) (blkOk_by (N := n_heights) (sc := defScope s_heights) (by decide +kernel)) (tg_name) (by decide) (fun _ _ _ _ _ => pg_name (i := 7) sc_heights.nd rfl (by first | exact Or.inl rfl | exact Or.inr rfl)) (fun _ _ _ _ _ => pts_md1 (pm_cmpT (om_eq hr.u64) rM_ok (pm_ix hr.u1 (pm_var (pv 4)) (pm_ix hr.u1 (pm_var (pv 7)) (pm_int))) (pm_var (pv 5)) (by rfl))) (fun _ _ _ _ _ => pm_int)) (pma_nil)))))
    (pms_cons (pms_expr (pm_bm PySem.F.plainAttrs_list PySem.F.slot_list_append PySem.F.type_list_append mm_append (pm_var (pv 2)) (pma_cons (pm_var (pv 3)) (pma_nil))))
    (pms_nil)))))
    (pms_cons (pms_ret (pm_callTy cm_tuple (by rfl) T.z_tuple Md.boot_tuple (pma_cons (pm_var (pv 2)) (pma_nil))))
    (pms_nil))))
noncomputable abbrev b__law_inputs : SD := sCons (sSet 1 (mLstO (mNil)))
    (sCons (sFor (mRng1 (mCons (mCall fLen (mCons (mVar 0) (mNil))) (mNil))) (mgName 2)
    (sCons (sExpr (mMet "list" fExtend (mVar 1) (mCons (mLcF finL (mRng1 (mCons (mCall fLen (mCons (mOp fIx (mOp fIx (mVar 0) (mVar 2)) (mC (.int 1))) (mNil))) (mNil))) (mgName 3) (mYes) (mTup (mCons (mVar 2) (mCons (mVar 3) (mNil)))) [3]) (mNil))))
    (sNil)))
    (sCons (sRet (mVar 1))
    (sNil)))
noncomputable def m__law_inputs : List D → Sto → Out D := mDef 4 1 b__law_inputs
theorem d__law_inputs {P : Program} {w : World} {K : PySem.W.Frag} {mg : Str → Option Value} {base : Heap} (T : Txt K mg) (F : FunAt K mg "_law_inputs" s__law_inputs ["web"])  : DefAt P w K mg base "_law_inputs" 1 ["web"] m__law_inputs :=
  defAt (N := n__law_inputs) (ms := b__law_inputs) F sc__law_inputs (.inl rfl) fun f cdv A outer s H E hr =>
    pms_cons (pms_set (i := 1) sc__law_inputs.nd rfl (by first | exact Or.inl rfl | exact Or.inr rfl) (pm_lstO (pma_nil)))
    (pms_cons (pms_for (passes_of rfl) rfl (pmi_rng1 (by rfl) T.z_range (pma_cons (pm_callB cm_len (by rfl) T.z_len Md.boot_len (pma_cons (pm_var (pv 0)) (pma_nil))) (pma_nil))) (pg_name (i := 2) sc__law_inputs.nd rfl (by first | exact Or.inl rfl | exact Or.inr rfl)) (tg_name)
    (pms_cons (pms_expr (pm_bm PySem.F.plainAttrs_list PySem.F.slot_list_extend PySem.F.type_list_extend mm_extend (pm_var (pv 1)) (pma_cons (pm_lc (own := [("place", 3)]) (.inl rfl) rfl sc__law_inputs.nd (pmi_rng1 (by rfl) T.z_range (pma_cons (pm_callB cm_len (by rfl) T.z_len Md.boot_len (pma_cons (pm_ix hr.u1 (pm_ix hr.u1 (pm_var (pv 0)) (pm_var (pv 2))) (pm_int)) (pma_nil))) (pma_nil))) (blkOk_by (N := n__law_inputs) (sc := defScope s__law_inputs) (by decide +kernel)) (tg_name) (by decide) (fun _ _ _ _ _ => pg_name (i := 3) sc__law_inputs.nd rfl (by first | exact Or.inl rfl | exact Or.inr rfl)) (fun _ _ _ _ _ => pts_md0 rfl) (fun _ _ _ _ _ => pm_tup (pma_cons (pm_var (pv 2)) (pma_cons (pm_var (pv 3)) (pma_nil))))) (pma_nil))))
    (pms_nil)))
    (pms_cons (pms_ret (pm_var (pv 1)))
    (pms_nil)))
noncomputable abbrev b__law_ties : SD := sCons (sRet (mCall fSorted (mCons (mLcF finL (mSeq (mFn m__law_inputs (mCons (mVar 0) (mNil)))) (mgTup 2 (mgCons (mgName 1) (mgCons (mgName 2) (mgNil)))) (mYes) (mTup (mCons (mOp fIx (mOp fIx (mOp fIx (mVar 0) (mVar 1)) (mC (.int 1))) (mVar 2)) (mCons (mVar 1) (mCons (mVar 2) (mNil))))) [1, 2]) (mNil))))
    (sNil)
noncomputable def m__law_ties : List D → Sto → Out D := mDef 3 1 b__law_ties
theorem d__law_ties {P : Program} {w : World} {K : PySem.W.Frag} {mg : Str → Option Value} {base : Heap} (T : Txt K mg) (F : FunAt K mg "_law_ties" s__law_ties ["web"]) (G__law_inputs : DefAt P w K mg base "_law_inputs" 1 ["web"] m__law_inputs) : DefAt P w K mg base "_law_ties" 2 ["web"] m__law_ties :=
  defAt (N := n__law_ties) (ms := b__law_ties) F sc__law_ties (.inl rfl) fun f cdv A outer s H E hr =>
    pms_cons (pms_ret (pm_callB (cm_sorted hr.u64) (by rfl) T.z_sorted Md.boot_sorted (pma_cons (pm_lc (own := [("taker", 1), ("place", 2)]) (.inl rfl) rfl sc__law_ties.nd (pmi_seq (pm_def G__law_inputs hr (by decide) takesG (by rfl) (pma_cons (pm_var (pv 0)) (pma_nil)))) (blkOk_by (N := n__law_ties) (sc := defScope s__law_ties) (by decide +kernel)) (tg_tup (tgs_cons (tg_name) (tgs_cons (tg_name) (tgs_nil)))) (by decide) (fun _ _ _ _ _ => pg_tup rfl (pgs_cons (pg_name (i := 1) sc__law_ties.nd rfl (by first | exact Or.inl rfl | exact Or.inr rfl)) (pgs_cons (pg_name (i := 2) sc__law_ties.nd rfl (by first | exact Or.inl rfl | exact Or.inr rfl)) (pgs_nil)))) (fun _ _ _ _ _ => pts_md0 rfl) (fun _ _ _ _ _ => pm_tup (pma_cons (pm_ix hr.u1 (pm_ix hr.u1 (pm_ix hr.u1 (pm_var (pv 0)) (pm_var (pv 1))) (pm_int)) (pm_var (pv 2))) (pma_cons (pm_var (pv 1)) (pma_cons (pm_var (pv 2)) (pma_nil)))))) (pma_nil))))
    (pms_nil)
noncomputable abbrev b__law_heights : SD := sCons (sSet 2 (mLstO (mNil)))
    (sCons (sFor (mRng1 (mCons (mCall fLen (mCons (mVar 1) (mNil))) (mNil))) (mgName 3)
    (sCons (sSet 4 (mSl (mVar 1) (mPart none) (mPart (some (mOp fAdd (mVar 3) (mC (.int 1)))))))
    (sCons (sExpr (mMet "list" fAppend (mVar 2) (mCons (mCall fLen (mCons (mLcF finL (mSeq (mFn m__law_ties (mCons (mVar 0) (mNil)))) (mgTup 3 (mgCons (mgName 5) (mgCons (mgName 6) (mgCons (mgName 7) (mgNil))))) (mAnd (mB (mOp fIn (mVar 5) (mVar 4))) (mB (mOp fNotIn (mVar 6) (mVar 4)))) (mC (.int 1)) [5, 6, 7]) (mNil))) (mNil))))
    (sNil))))
    (sCons (sRet (mCall fTuple (mCons (mVar 2) (mNil))))
    (sNil)))
noncomputable def m__law_heights : List D → Sto → Out D := mDef 8 2 b__law_heights
theorem d__law_heights {P : Program} {w : World} {K : PySem.W.Frag} {mg : Str → Option Value} {base : Heap} (T : Txt K mg) (F : FunAt K mg "_law_heights" s__law_heights ["web", "order"]) (G__law_ties : DefAt P w K mg base "_law_ties" 2 ["web"] m__law_ties) : DefAt P w K mg base "_law_heights" 3 ["web", "order"] m__law_heights :=
  defAt (N := n__law_heights) (ms := b__law_heights) F sc__law_heights (.inl rfl) fun f cdv A outer s H E hr =>
    pms_cons (pms_set (i := 2) sc__law_heights.nd rfl (by first | exact Or.inl rfl | exact Or.inr rfl) (pm_lstO (pma_nil)))
    (pms_cons (pms_for (passes_of rfl) rfl (pmi_rng1 (by rfl) T.z_range (pma_cons (pm_callB cm_len (by rfl) T.z_len Md.boot_len (pma_cons (pm_var (pv 1)) (pma_nil))) (pma_nil))) (pg_name (i := 3) sc__law_heights.nd rfl (by first | exact Or.inl rfl | exact Or.inr rfl)) (tg_name)
    (pms_cons (pms_set (i := 4) sc__law_heights.nd rfl (by first | exact Or.inl rfl | exact Or.inr rfl) (pm_sl (pm_var (pv 1)) (pmo_none) (pmo_some (pm_op om_add rM_ok (pm_var (pv 3)) (pm_int)))))
    (pms_cons (pms_expr (pm_bm PySem.F.plainAttrs_list PySem.F.slot_list_append PySem.F.type_list_append mm_append (pm_var (pv 2)) (pma_cons (pm_callB cm_len (by rfl) T.z_len Md.boot_len (pma_cons (pm_lc (own := [("giver", 5), ("taker", 6), ("place", 7)]) (.inl rfl) rfl sc__law_heights.nd (pmi_seq (pm_def G__law_ties hr (by decide) takesG (by rfl) (pma_cons (pm_var (pv 0)) (pma_nil)))) (blkOk_by (N := n__law_heights) (sc := defScope s__law_heights) (by decide +kernel)) (tg_tup (tgs_cons (tg_name) (tgs_cons (tg_name) (tgs_cons (tg_name) (tgs_nil))))) (by decide) (fun _ _ _ _ _ => pg_tup rfl (pgs_cons (pg_name (i := 5) sc__law_heights.nd rfl (by first | exact Or.inl rfl | exact Or.inr rfl)) (pgs_cons (pg_name (i := 6) sc__law_heights.nd rfl (by first | exact Or.inl rfl | exact Or.inr rfl)) (pgs_cons (pg_name (i := 7) sc__law_heights.nd rfl (by first | exact Or.inl rfl | exact Or.inr rfl)) (pgs_nil))))) (fun _ _ _ _ _ => pts_md1 (PW.pt (pmw_and (pm_cmpT (om_in hr.u65) rM_ok (pm_var (pv 5)) (pm_var (pv 4)) (by rfl)) (pmw_and1 (pm_cmpT (om_notIn hr.u65) rM_ok (pm_var (pv 6)) (pm_var (pv 4)) (by rfl)))))) (fun _ _ _ _ _ => pm_int)) (pma_nil))) (pma_nil))))
    (pms_nil))))
    (pms_cons (pms_ret (pm_callTy cm_tuple (by rfl) T.z_tuple Md.boot_tuple (pma_cons (pm_var (pv 2)) (pma_nil))))
    (pms_nil)))
noncomputable abbrev b_law : SD := sCons (sSet 1 (mFn m__law_deck (mCons (mVar 0) (mNil))))
    (sCons (sFor (mRng1 (mCons (mC (.int 10)) (mNil))) (mgName 2)
    (sCons (sAsg (mgTup 2 (mgCons (mgName 3) (mgCons (mgName 4) (mgNil)))) (mFn m__law_woven (mCons (mVar 1) (mCons (mFn m__law_one (mCons (mVar 1) (mCons (mLst (mCons (mC (.int 8)) (mCons (mC (.int 10)) (mNil)))) (mNil)))) (mCons (mC (.bl false)) (mNil))))))
    (sCons (sFor (mSeq (mLst (mCons (mVar 4) (mCons (mFn m_order_of (mCons (mVar 3) (mNil))) (mNil))))) (mgName 5)
    (sCons (sIf (mB (mOp fNe (mCall fRepr (mCons (mFn m_heights (mCons (mVar 3) (mCons (mVar 5) (mNil)))) (mNil))) (mCall fRepr (mCons (mFn m__law_heights (mCons (mVar 3) (mCons (mVar 5) (mNil)))) (mNil)))))
    (sCons (sRet (mC (.bl false)))
    (sNil))
    (sNil))
    (sNil)))
    (sCons (sIf (mOr (mB (mOp fNe (mOp fIx (mFn m_heights (mCons (mVar 3) (mCons (mVar 4) (mNil)))) (mUn fNeg (mC (.int 1)))) (mC (.int 0)))) (mB (mOp fNe (mFn m_heights (mCons (mVar 3) (mCons (mVar 4) (mNil)))) (mFnK m_heights 0 2 [1, 0] mNil (mCons (mVar 4) (mCons (mVar 3) (mNil)))))))
    (sCons (sRet (mC (.bl false)))
    (sNil))
    (sNil))
    (sNil)))))
    (sCons (sRet (mOp fEq (mCall fRepr (mCons (mFn m_heights (mCons (mTup (mCons (mTup (mCons (mC (.str "in")) (mCons (mTup (mNil)) (mNil)))) (mCons (mTup (mCons (mC (.str "pick")) (mCons (mTup (mCons (mC (.int 0)) (mCons (mC (.int 0)) (mCons (mC (.int 0)) (mNil))))) (mNil)))) (mCons (mTup (mCons (mC (.str "neg")) (mCons (mTup (mCons (mC (.int 0)) (mNil))) (mNil)))) (mNil))))) (mCons (mTup (mCons (mC (.int 0)) (mCons (mC (.int 1)) (mCons (mC (.int 2)) (mNil))))) (mNil)))) (mNil))) (mC (.str "(4, 1, 0)"))))
    (sNil)))
noncomputable def m_law : List D → Sto → Out D := mDef 6 1 b_law
theorem d_law {P : Program} {w : World} {K : PySem.W.Frag} {mg : Str → Option Value} {base : Heap} {f : Addr} {fd : FuncData} (T : Txt K mg) (F : Fun K "law" "law" s_law f fd) (G__law_deck : DefAt P w K mg base "_law_deck" 1 ["script"] m__law_deck) (G__law_woven : DefAt P w K mg base "_law_woven" 4 ["deck", "most", "is_queue"] m__law_woven) (G__law_one : DefAt P w K mg base "_law_one" 2 ["deck", "items"] m__law_one) (G_order_of : DefAt P w K mg base "order_of" 21 ["web"] m_order_of) (G_heights : DefAt P w K mg base "heights" 2 ["web", "order"] m_heights) (G__law_heights : DefAt P w K mg base "_law_heights" 3 ["web", "order"] m__law_heights) : FnG P w K mg base 22 f fd ["script"] m_law :=
  fnG (N := n_law) (ms := b_law) F sc_law (.inl rfl) fun cdv A outer s H E hr =>
    pms_cons (pms_set (i := 1) sc_law.nd rfl (by first | exact Or.inl rfl | exact Or.inr rfl) (pm_def G__law_deck hr (by decide) takesG (by rfl) (pma_cons (pm_var (pv 0)) (pma_nil))))
    (pms_cons (pms_for (passes_of rfl) rfl (pmi_rng1 (by rfl) T.z_range (pma_cons (pm_int) (pma_nil))) (pg_name (i := 2) sc_law.nd rfl (by first | exact Or.inl rfl | exact Or.inr rfl)) (tg_name)
    (pms_cons (pms_asg (pm_def G__law_woven hr (by decide) takesG (by rfl) (pma_cons (pm_var (pv 1)) (pma_cons (pm_def G__law_one hr (by decide) takesG (by rfl) (pma_cons (pm_var (pv 1)) (pma_cons (pm_lst (pma_cons (pm_int) (pma_cons (pm_int) (pma_nil)))) (pma_nil)))) (pma_cons (pm_bl) (pma_nil))))) (pg_tup rfl (pgs_cons (pg_name (i := 3) sc_law.nd rfl (by first | exact Or.inl rfl | exact Or.inr rfl)) (pgs_cons (pg_name (i := 4) sc_law.nd rfl (by first | exact Or.inl rfl | exact Or.inr rfl)) (pgs_nil)))) (tg_tup (tgs_cons (tg_name) (tgs_cons (tg_name) (tgs_nil)))))
    (pms_cons (pms_for (passes_of rfl) rfl (pmi_seq (pm_lst (pma_cons (pm_var (pv 4)) (pma_cons (pm_def G_order_of hr (by decide) takesG (by rfl) (pma_cons (pm_var (pv 3)) (pma_nil))) (pma_nil))))) (pg_name (i := 5) sc_law.nd rfl (by first | exact Or.inl rfl | exact Or.inr rfl)) (tg_name)
    (pms_cons (pms_if (pm_cmpT (om_ne hr.u64) rM_ok (pm_callB (cm_repr hr.grd hr.u64) (by rfl) T.z_repr Md.boot_repr (pma_cons (pm_def G_heights hr (by decide) takesG (by rfl) (pma_cons (pm_var (pv 3)) (pma_cons (pm_var (pv 5)) (pma_nil)))) (pma_nil))) (pm_callB (cm_repr hr.grd hr.u64) (by rfl) T.z_repr Md.boot_repr (pma_cons (pm_def G__law_heights hr (by decide) takesG (by rfl) (pma_cons (pm_var (pv 3)) (pma_cons (pm_var (pv 5)) (pma_nil)))) (pma_nil))) (by rfl))
    (pms_cons (pms_ret (pm_bl))
    (pms_nil))
    (pms_nil))
    (pms_nil)))
    (pms_cons (pms_if (PW.pt (pmw_or (pm_cmpT (om_ne hr.u64) rM_ok (pm_ix hr.u1 (pm_def G_heights hr (by decide) takesG (by rfl) (pma_cons (pm_var (pv 3)) (pma_cons (pm_var (pv 4)) (pma_nil)))) (pm_un un_neg ru_neg (pm_int))) (pm_int) (by rfl)) (pmw_or1 (pm_cmpT (om_ne hr.u64) rM_ok (pm_def G_heights hr (by decide) takesG (by rfl) (pma_cons (pm_var (pv 3)) (pma_cons (pm_var (pv 4)) (pma_nil)))) (pm_defK0 G_heights T.kw_0 hr (by decide) takesG (by rfl) (pmk_cons (pm_var (pv 4)) (pmk_cons (pm_var (pv 3)) (pmk_nil)))) (by rfl)))))
    (pms_cons (pms_ret (pm_bl))
    (pms_nil))
    (pms_nil))
    (pms_nil)))))
    (pms_cons (pms_ret (pm_cmp (om_eq hr.u64) rM_ok (pm_callB (cm_repr hr.grd hr.u64) (by rfl) T.z_repr Md.boot_repr (pma_cons (pm_def G_heights hr (by decide) takesG (by rfl) (pma_cons (pm_tup (pma_cons (pm_tup (pma_cons (pm_str) (pma_cons (pm_tup (pma_nil)) (pma_nil)))) (pma_cons (pm_tup (pma_cons (pm_str) (pma_cons (pm_tup (pma_cons (pm_int) (pma_cons (pm_int) (pma_cons (pm_int) (pma_nil))))) (pma_nil)))) (pma_cons (pm_tup (pma_cons (pm_str) (pma_cons (pm_tup (pma_cons (pm_int) (pma_nil))) (pma_nil)))) (pma_nil))))) (pma_cons (pm_tup (pma_cons (pm_int) (pma_cons (pm_int) (pma_cons (pm_int) (pma_nil))))) (pma_nil)))) (pma_nil))) (pm_str) (by rfl)))
    (pms_nil)))
end Law

set_option Elab.async false
set_option linter.all false
set_option maxRecDepth 100000
set_option maxHeartbeats 2000000
namespace Law
open PySem PySem.Spec PyProof.Rows L2 Md
theorem emod_lt {a b : Int} (h : 0 < b) : 0 ≤ a.fmod b ∧ a.fmod b < b := ⟨Int.fmod_nonneg_of_pos a h, Int.fmod_lt_of_pos a h⟩
theorem cMul_c {i j : Int} (h1 : -(2 ^ 64) < i) (h2 : i < 2 ^ 64) : cMul i j = true := by
  unfold cMul
  rw [decide_eq_true (p := (-(2 ^ 64) < i ∧ i < 2 ^ 64) ∨ _) (.inl ⟨h1, h2⟩)]
  rfl
theorem sCons_nx {ms mq : SD} {l l' : Md.Loc} {S S' : Sto} (h : ms l S = .nx l' S') : sCons ms mq l S = mq l' S' := by
  show (ms l S).bind mq = _
  rw [h]; rfl
theorem cPow18 : cPow 10 18 = true := decide_eq_true ⟨by decide, by decide, by decide⟩
theorem atI_map {α : Type} {f : α → D} {xs : List α} {i : Int} (h0 : 0 ≤ i) (h1 : i < xs.length) : ∃ x ∈ xs, atI (xs.map f) i = some (f x) := by
  obtain ⟨k, rfl⟩ : ∃ k : Nat, i = (k : Int) := ⟨i.toNat, by omega⟩
  have hk : k < xs.length := by omega
  refine ⟨xs[k], List.getElem_mem hk, ?_⟩
  rw [Md.atI_nat]
  simp [hk]
theorem atI_mem {xs : List D} {i : Int} (h0 : 0 ≤ i) (h1 : i < xs.length) : ∃ x ∈ xs, atI xs i = some x := by
  obtain ⟨x, hx, e⟩ := atI_map (f := id) (xs := xs) h0 h1
  exact ⟨x, hx, by simpa using e⟩
theorem rgD_eq {lo : Int} {n : Nat} : rgD lo n = ((List.range n).map fun (i : Nat) => lo + (i : Int)).map D.int := by
  unfold rgD
  rw [List.map_map]; rfl
theorem fRg0 {i j : Int} {S : Sto} (h0 : 0 ≤ i) (h1 : i ≤ 1000000) (h2 : 0 ≤ j) (h3 : j ≤ 1000000) : fRg 0 i j S = .ok (.lst (rgD i (j - i).toNat)) S := by
  unfold fRg
  rw [bnd_of (by omega) (by omega), bnd_of (by omega) (by omega), small_of (by omega)]
  rfl
theorem bnd_small {i : Int} (h0 : 0 ≤ i) (h1 : i ≤ 1000000) : bnd62 i = true := bnd_of (by omega) (by omega)
theorem erase_perm {α : Type} : ∀ {l : List α} {i : Nat} (h : i < l.length), (l[i] :: l.eraseIdx i).Perm l
  | x :: l, 0, _ => List.Perm.refl _
  | x :: l, i + 1, h => by
    have ih := erase_perm (l := l) (i := i) (by simpa using h)
    have hi : i < l.length := by simpa using h
    exact (List.Perm.swap x l[i] _).trans (ih.cons x)
theorem mem_get {α : Type} {xs : List α} {x : α} (h : x ∈ xs) : ∃ k, k < xs.length ∧ xs[k]? = some x := by
  obtain ⟨k, hk, e⟩ := List.getElem_of_mem h
  exact ⟨k, hk, by simp [hk, e]⟩
theorem pull {α : Type} {f : α → D} : ∀ {ds : List D} {Q : Nat → α → Prop}, (∀ k d, ds[k]? = some d → ∃ a, d = f a ∧ Q k a) → ∃ as : List α, ds = as.map f ∧ ∀ k a, as[k]? = some a → Q k a
  | [], _, _ => ⟨[], rfl, by simp⟩
  | d :: ds, Q, h => by
    obtain ⟨a, rfl, ha⟩ := h 0 d rfl
    obtain ⟨as, rfl, has⟩ := pull (ds := ds) (Q := fun k => Q (k + 1)) fun k d hk => h (k + 1) d (by simpa using hk)
    refine ⟨a :: as, rfl, fun k x hk => ?_⟩
    cases k with
    | zero => simp at hk; subst hk; exact ha
    | succ k => exact has k x (by simpa using hk)
/-! two cells of one's own behind the deck -/
section
variable {r : List Cell} {c0 c1 x y z : Cell}
theorem at_2 : (c0 :: c1 :: (r ++ [x, y]))[r.length + 2]? = some x := by simp
theorem at_3 : (c0 :: c1 :: (r ++ [x, y]))[r.length + 3]? = some y := by
  rw [List.getElem?_cons_succ, List.getElem?_cons_succ, List.getElem?_append_right (by omega)]
  simp
theorem set_2 : (c0 :: c1 :: (r ++ [x, y])).set (r.length + 2) z = c0 :: c1 :: (r ++ [z, y]) := by
  rw [List.set_cons_succ, List.set_cons_succ, List.set_append_right _ _ (by omega)]
  simp
theorem set_3 : (c0 :: c1 :: (r ++ [x, y])).set (r.length + 3) z = c0 :: c1 :: (r ++ [x, z]) := by
  rw [List.set_cons_succ, List.set_cons_succ, List.set_append_right _ _ (by omega)]
  simp
end
theorem eqvI {i j : Int} : PyData.eqv (.int i) (.int j) = decide (i = j) := by
  show (i == j) = _
  by_cases h : i = j <;> simp [h]
theorem pyEL_ints (ns : List Int) : pyEL (ns.map D.int) = ns.map PyData.int := by
  induction ns with
  | nil => rfl
  | cons n ns ih => rw [List.map_cons, pyEL, ih]; rfl
theorem findIdx_map {α β : Type} {f : α → β} {p : β → Bool} : ∀ {xs : List α}, (xs.map f).findIdx? p = xs.findIdx? fun x => p (f x)
  | [] => rfl
  | x :: xs => by rw [List.map_cons, List.findIdx?_cons, List.findIdx?_cons, findIdx_map]
theorem idxD_ints {S : Sto} {ns : List Int} {i : Int} : idxD S (ns.map D.int) (.int i) = ns.findIdx? fun z => decide (z = i) := by
  unfold idxD
  rw [pyDL_ok okL_ints, show pyS S (.int i) = some (.int i) from rfl]
  obtain ⟨a1, _, a2, _⟩ := pyL_lay (okL_ints (ns := ns))
  have s1 : SeqAt.shaped (.list (pyEL (ns.map D.int))) = true := shaped_of a1 (by show PyData.depthAll _ + 1 ≤ 64; rw [a2, depL_ints]; omega)
  rw [pyEL_ints] at s1
  simp only [Option.bind_some, s1, show SeqAt.shaped (.int i) = true from rfl, Bool.and_self, if_true, pyEL_ints, findIdx_map]
  simp only [eqvI]
theorem inD_ints {S : Sto} {ns : List Int} {i : Int} : inSeqD S (.int i) (ns.map D.int) = some (decide (i ∈ ns)) := by
  unfold inSeqD
  rw [pyDL_ok okL_ints, show pyS S (.int i) = some (.int i) from rfl]
  obtain ⟨a1, _, a2, _⟩ := pyL_lay (okL_ints (ns := ns))
  have s1 : SeqAt.shaped (.list (pyEL (ns.map D.int))) = true := shaped_of a1 (by show PyData.depthAll _ + 1 ≤ 64; rw [a2, depL_ints]; omega)
  rw [pyEL_ints] at s1
  simp only [Option.bind_some, s1, show SeqAt.shaped (.int i) = true from rfl, Bool.and_self, if_true, pyEL_ints, List.any_map]
  congr 1
  rw [Bool.eq_iff_iff]
  simp [eqvI]
theorem find_there {row : List Int} {one : Int} (h : one ∈ row) : ∃ k, (row.findIdx? fun z => decide (z = one)) = some k ∧ k < row.length := by
  cases e : row.findIdx? fun z => decide (z = one) with
  | none =>
    rw [List.findIdx?_eq_none_iff] at e
    have := e one h
    simp at this
  | some k =>
    rw [List.findIdx?_eq_some_iff_getElem] at e
    exact ⟨k, rfl, e.1⟩
theorem atI_nat' {α : Type} {xs : List α} {i : Nat} : atI xs (i : Int) = xs[i]? := Md.atI_nat
/-- a slice from behind -/
theorem cut_tail {ds : List D} {m : Nat} (h : m ≤ ds.length) : Md.cutD ds (some ((ds.length : Int) - m)) none = ds.drop (ds.length - m) := by
  have e1 : HT.sIx ds.length 0 (some ((ds.length : Int) - m)) = ds.length - m := by
    unfold HT.sIx
    simp
    omega
  have e2 : HT.sIx ds.length ds.length none = ds.length := rfl
  unfold Md.cutD
  rw [e1, e2, List.take_of_length_le (by simp)]
theorem cut_head {ds : List D} {m : Nat} (h : m ≤ ds.length) : Md.cutD ds none (some ((ds.length : Int) - m)) = ds.take (ds.length - m) := by
  have e1 : HT.sIx ds.length ds.length (some ((ds.length : Int) - m)) = ds.length - m := by
    unfold HT.sIx
    simp
    omega
  have e2 : HT.sIx ds.length 0 none = 0 := rfl
  unfold Md.cutD
  rw [e1, e2]
  simp
theorem at_b2 {r : List Cell} {c0 c1 x : Cell} : (c0 :: c1 :: (r ++ [x]))[r.length + 2]? = some x := by simp
theorem set_b2 {r : List Cell} {c0 c1 x z : Cell} : (c0 :: c1 :: (r ++ [x])).set (r.length + 2) z = c0 :: c1 :: (r ++ [z]) := by
  rw [List.set_cons_succ, List.set_cons_succ, List.set_append_right _ _ (by omega)]
  simp
@[simp] theorem r_mulL {a : List D} {k : Int} {S : Sto} : fMul (.lst a) (.int k) S = guardO (decide (-1000 ≤ k ∧ k ≤ 1000 ∧ a.length ≤ 1000)) (.ok (.lst (Md.rep k.toNat a)) S) := rfl
@[simp] theorem slL {a : List D} {S : Sto} {lo hi : Option Int} : slD S (.lst a) lo hi = some (.lst (Md.cutD a lo hi)) := rfl
theorem rep_one {n : Nat} {i : Int} : Md.rep n [.int i] = (List.replicate n i).map D.int := by
  unfold Md.rep
  induction n with
  | zero => rfl
  | succ n ih => rw [List.replicate_succ, List.flatten_cons, ih, List.replicate_succ]; rfl
def unI : D → Int
  | .int i => i
  | _ => 0
theorem perm_ints {ys : List D} {xs : List Int} (h : ys.Perm (xs.map D.int)) : ∃ ns : List Int, ys = ns.map D.int ∧ ns.Perm xs := by
  refine ⟨ys.map unI, ?_, ?_⟩
  · have all : ∀ y ∈ ys, D.int (unI y) = y := fun y hy => by
      obtain ⟨i, _, rfl⟩ := List.mem_map.mp (h.subset hy)
      rfl
    clear h
    induction ys with
    | nil => rfl
    | cons y ys ih => rw [List.map_cons, List.map_cons, all y (by simp), ← ih fun z hz => all z (by simp [hz])]
  · have := h.map unI
    rw [List.map_map] at this
    simpa [Function.comp_def, unI] using this
theorem cut_to {ds : List D} {m : Nat} : Md.cutD ds none (some (m : Int)) = ds.take m := by
  have e1 : HT.sIx ds.length ds.length (some (m : Int)) = min m ds.length := HT.sIx_nat _ _ _
  have e2 : HT.sIx ds.length 0 none = 0 := rfl
  unfold Md.cutD
  rw [e1, e2]
  simp
theorem cut_from {ds : List D} {m : Nat} : Md.cutD ds (some (m : Int)) none = ds.drop m := by
  have e1 : HT.sIx ds.length 0 (some (m : Int)) = min m ds.length := HT.sIx_nat _ _ _
  have e2 : HT.sIx ds.length ds.length none = ds.length := rfl
  unfold Md.cutD
  rw [e1, e2, List.take_of_length_le (by simp)]
  by_cases h : m ≤ ds.length
  · rw [Nat.min_eq_left h]
  · rw [Nat.min_eq_right (by omega), List.drop_eq_nil_of_le (Nat.le_refl _), List.drop_eq_nil_of_le (by omega)]
abbrev rangeI (n : Nat) : List Int := (List.range n).map fun (k : Nat) => (k : Int)
theorem rangeI_mem {n : Nat} {i : Int} : i ∈ rangeI n ↔ 0 ≤ i ∧ i < (n : Int) := by
  unfold rangeI
  rw [List.mem_map]
  constructor
  · rintro ⟨k, hk, rfl⟩
    have := List.mem_range.mp hk
    omega
  · rintro ⟨a, b⟩
    exact ⟨i.toNat, List.mem_range.mpr (by omega), by omega⟩
theorem rangeI_len {n : Nat} : (rangeI n).length = n := by simp [rangeI]
theorem rangeI_lt {n : Nat} : (rangeI n).Pairwise (· < ·) := by
  unfold rangeI
  rw [List.pairwise_map]
  exact List.pairwise_lt_range.imp fun h => by omega
theorem rangeI_nd {n : Nat} : (rangeI n).Nodup := rangeI_lt.imp fun h => by omega
theorem perm_sub : ∀ {a b : List Int}, a.Nodup → (∀ x ∈ a, x ∈ b) → b.length ≤ a.length → b.Perm a
  | [], b, _, _, h => by
    have : b = [] := List.eq_nil_of_length_eq_zero (by simpa using h)
    rw [this]
  | x :: a, b, nd, sub, h => by
    rw [List.nodup_cons] at nd
    have hx := sub x (by simp)
    have e := List.length_erase_of_mem hx
    have hb : 0 < b.length := List.length_pos_of_mem hx
    refine (List.perm_cons_erase hx).trans (List.Perm.cons x (perm_sub nd.2 (fun y hy => ?_) (by simp at h; omega)))
    exact (List.mem_erase_of_ne fun (z : y = x) => nd.1 (z ▸ hy)).mpr (sub y (by simp [hy]))
theorem sCons_rt {ms mq : SD} {l : Md.Loc} {S S' : Sto} {d : D} (h : ms l S = .rt d S') : sCons ms mq l S = .rt d S' := by
  show (ms l S).bind mq = _
  rw [h]; rfl
theorem _root_.Md.OutS.To.imp' {o : OutS} {P Q : Md.Loc → Sto → Prop} (h : o.To P) (f : ∀ l S, P l S → Q l S) : o.To Q := by
  obtain ⟨l, S, e, p⟩ := h
  exact ⟨l, S, e, f l S p⟩

end Law

set_option Elab.async false
set_option linter.all false
set_option maxRecDepth 100000
set_option maxHeartbeats 2000000
namespace Law
open PySem PySem.Spec PyProof.Rows L2 Md
/-! ### webs -/
def kindsOf : Nat → List D
  | 0 => .str "in" :: (List.range 199).map fun (k : Nat) => .int ((k : Int) - 99)
  | 1 => [.str "neg"]
  | 2 => [.str "+", .str "-", .str "*"]
  | 3 => [.str "pick"]
  | _ => []
theorem kinds_int {i : Int} (h0 : -99 ≤ i) (h1 : i ≤ 99) : D.int i ∈ kindsOf 0 :=
  List.mem_cons_of_mem _ (List.mem_map.mpr ⟨(i + 99).toNat, List.mem_range.mpr (by omega), by congr 1; omega⟩)
theorem kinds_cases {n : Nat} {d : D} (h : d ∈ kindsOf n) : (n = 0 ∧ (d = .str "in" ∨ ∃ i : Int, d = .int i ∧ -99 ≤ i ∧ i ≤ 99)) ∨ (n = 1 ∧ d = .str "neg") ∨ (n = 2 ∧ (d = .str "+" ∨ d = .str "-" ∨ d = .str "*")) ∨ (n = 3 ∧ d = .str "pick") := by
  match n, h with
  | 0, h =>
    left
    refine ⟨rfl, ?_⟩
    rcases List.mem_cons.mp h with h | h
    · exact .inl h
    · obtain ⟨k, hk, rfl⟩ := List.mem_map.mp h
      have := List.mem_range.mp hk
      exact .inr ⟨_, rfl, by omega, by omega⟩
  | 1, h => exact .inr (.inl ⟨rfl, by simpa [kindsOf] using h⟩)
  | 2, h => exact .inr (.inr (.inl ⟨rfl, by simpa [kindsOf] using h⟩))
  | 3, h => exact .inr (.inr (.inr ⟨rfl, by simpa [kindsOf] using h⟩))
  | n + 4, h => cases h
theorem lt_small' {i : Int} (h : i.natAbs ≤ 1000) : ltD (.int i) = true := decide_eq_true (Nat.lt_of_le_of_lt h (by decide))
theorem kinds_ok {n : Nat} {d : D} (h : d ∈ kindsOf n) : okD d = true ∧ ltD d = true ∧ nbD d = true ∧ dep d = 0 ∧ blk d ≤ 10 := by
  rcases kinds_cases h with ⟨_, rfl | ⟨i, rfl, a, b⟩⟩ | ⟨_, rfl⟩ | ⟨_, rfl | rfl | rfl⟩ | ⟨_, rfl⟩
  · decide +kernel
  · exact ⟨rfl, lt_small' (by omega), rfl, rfl, Nat.zero_le _⟩
  all_goals decide +kernel
theorem kinds_en {n : Nat} {d : D} (h : d ∈ kindsOf n) : enD d = true := by
  rcases kinds_cases h with ⟨_, rfl | ⟨i, rfl, a, b⟩⟩ | ⟨_, rfl⟩ | ⟨_, rfl | rfl | rfl⟩ | ⟨_, rfl⟩ <;> first | rfl | decide +kernel
/-- a step: its kind and its inputs -/
def encS (p : D × List Int) : D := .tup [p.1, .tup (p.2.map D.int)]
def StepOk (lo hi : Int) (p : D × List Int) : Prop := p.1 ∈ kindsOf p.2.length ∧ p.2.length ≤ 3 ∧ ∀ i ∈ p.2, lo ≤ i ∧ i < hi
theorem encS_ok {lo hi : Int} {p : D × List Int} (h : StepOk lo hi p) : okD (encS p) = true := by
  unfold encS
  rw [okD, okL, okL, okL, okD, (kinds_ok h.1).1, okL_ints]; rfl
abbrev Web := List (D × List Int)
def encW (w : Web) : D := .tup (w.map encS)
/-- each step of a known kind, its inputs among the steps -/
def Low (w : Web) : Prop := 0 < w.length ∧ ∃ rk : Nat → Nat, ∀ (k : Nat) (h : k < w.length), ∀ i ∈ w[k].2, rk i.toNat < rk k
def WebOk (n : Nat) (w : Web) : Prop := w.length ≤ n ∧ (∀ p ∈ w, StepOk 0 w.length p) ∧ Low w
theorem encW_ok {n : Nat} {w : Web} (h : WebOk n w) : okD (encW w) = true := okL_map fun p hp => encS_ok (h.2.1 p hp)
theorem StepOk.mono {lo hi hi' : Int} {p : D × List Int} (h : StepOk lo hi p) (k : hi ≤ hi') : StepOk lo hi' p :=
  ⟨h.1, h.2.1, fun i hi => ⟨(h.2.2 i hi).1, by have := (h.2.2 i hi).2; omega⟩⟩
/-- the steps in another order -/
def numW (w : Web) (row : List Int) : Web := row.map fun s => ((w.getD s.toNat (.non, [])).1, (w.getD s.toNat (.non, [])).2.map fun one => (((row.findIdx? fun z => decide (z = one)).getD 0 : Nat) : Int))
theorem numW_ok {n : Nat} {w : Web} {row : List Int} (hw : WebOk n w) (hp : row.Perm ((List.range w.length).map fun (i : Nat) => (i : Int))) : WebOk n (numW w row) := by
  have hl : row.length = w.length := by rw [hp.length_eq]; simp
  obtain ⟨pos, rk, hrk⟩ := hw.2.2
  have there : ∀ s ∈ row, ∃ k, ∃ hk : k < w.length, s = (k : Int) ∧ w.getD s.toNat (.non, []) = w[k] := fun s hs => by
    obtain ⟨k, hk, rfl⟩ := List.mem_map.mp (hp.subset hs)
    have hk := List.mem_range.mp hk
    exact ⟨k, hk, rfl, by simp [hk]⟩
  have goes : ∀ s ∈ row, ∀ one ∈ (w.getD s.toNat (.non, [])).2, ∃ j, (row.findIdx? fun z => decide (z = one)) = some j ∧ j < row.length ∧ row[j]? = some one ∧ rk one.toNat < rk s.toNat := fun s hs one ho => by
    obtain ⟨k, hk, rfl, e⟩ := there s hs
    rw [e] at ho
    have ok := hw.2.1 w[k] (List.getElem_mem hk)
    have hb := ok.2.2 one ho
    have hm : one ∈ row := hp.symm.subset (List.mem_map.mpr ⟨one.toNat, List.mem_range.mpr (by omega), by omega⟩)
    obtain ⟨j, ej, hj⟩ := find_there hm
    refine ⟨j, ej, hj, ?_, by simpa using hrk k hk one ho⟩
    rw [List.findIdx?_eq_some_iff_getElem] at ej
    obtain ⟨h1, h2, _⟩ := ej
    rw [List.getElem?_eq_getElem h1]
    congr 1
    exact of_decide_eq_true h2
  refine ⟨by unfold numW; rw [List.length_map, hl]; exact hw.1, fun p hp' => ?_, by unfold numW; rw [List.length_map, hl]; exact pos, fun j => rk (row.getD j 0).toNat, fun j hj i hi => ?_⟩
  · unfold numW at hp'
    obtain ⟨s, hs, rfl⟩ := List.mem_map.mp hp'
    obtain ⟨k, hk, rfl, e⟩ := there s hs
    have ok := hw.2.1 w[k] (List.getElem_mem hk)
    have gs := goes _ hs
    rw [e] at gs
    rw [e]
    refine ⟨by show w[k].1 ∈ kindsOf (List.length _); rw [List.length_map]; exact ok.1, by rw [List.length_map]; exact ok.2.1, fun i hi => ?_⟩
    obtain ⟨one, ho, rfl⟩ := List.mem_map.mp hi
    obtain ⟨j, ej, hj, _⟩ := gs one ho
    rw [ej]
    show (0 : Int) ≤ ((j : Nat) : Int) ∧ ((j : Nat) : Int) < ((numW w row).length : Nat)
    unfold numW
    rw [List.length_map]
    omega
  · unfold numW at hi hj
    rw [List.length_map] at hj
    rw [List.getElem_map] at hi
    obtain ⟨one, ho, rfl⟩ := List.mem_map.mp hi
    obtain ⟨m, em, hm, at_, lt⟩ := goes row[j] (List.getElem_mem hj) one ho
    rw [em]
    simp [at_, hj]
    exact lt
@[simp] theorem ixW {S : Sto} {w : Web} {i : Int} : ixD S (encW w) (.int i) = atI (w.map encS) i := rfl
@[simp] theorem seqW {S : Sto} {w : Web} : seqOf S (encW w) = some (w.map encS) := rfl
@[simp] theorem lenW {S : Sto} {w : Web} : lenD S (encW w) = some w.length := by
  show some (w.map encS).length = _
  rw [List.length_map]
@[simp] theorem cellsW {S : Sto} {w : Web} : cellsOf S (encW w) = [] := rfl
@[simp] theorem ixS0 {S : Sto} {p : D × List Int} : ixD S (encS p) (.int 0) = some p.1 := rfl
@[simp] theorem ixS1 {S : Sto} {p : D × List Int} : ixD S (encS p) (.int 1) = some (.tup (p.2.map D.int)) := rfl
theorem WebOk.mono {n m : Nat} {w : Web} (h : WebOk n w) (k : n ≤ m) : WebOk m w := ⟨Nat.le_trans h.1 k, h.2⟩
theorem WebOk.le {n : Nat} {w : Web} (h : WebOk n w) : w.length ≤ n := h.1
theorem WebOk.pos {n : Nat} {w : Web} (h : WebOk n w) : 0 < w.length := h.2.2.1
theorem WebOk.ne {n : Nat} {w : Web} (h : WebOk n w) {k : Nat} (hk : k < w.length) {i : Int} (hi : i ∈ w[k].2) : i ≠ (k : Int) := by
  obtain ⟨_, rk, hrk⟩ := h.2.2
  intro e
  have := hrk k hk i hi
  rw [e] at this
  simp at this
/-- steps that take earlier ones alone -/
theorem low_of {w : Web} (h0 : 0 < w.length) (h : ∀ (j : Nat) (p : D × List Int), w[j]? = some p → StepOk 0 j p) : Low w := by
  refine ⟨h0, fun k => k, fun k hk i hi => ?_⟩
  have := (h k w[k] (by simp [hk])).2.2 i hi
  show i.toNat < k
  omega
theorem webOk_of {n : Nat} {w : Web} (h0 : 0 < w.length) (hn : w.length ≤ n) (h : ∀ (j : Nat) (p : D × List Int), w[j]? = some p → StepOk 0 j p) : WebOk n w := by
  refine ⟨hn, fun p hp => ?_, low_of h0 h⟩
  obtain ⟨k, hk, e⟩ := mem_get hp
  have := h k p e
  exact ⟨this.1, this.2.1, fun i hi => by have := this.2.2 i hi; omega⟩

end Law

set_option Elab.async false
set_option linter.all false
set_option maxRecDepth 100000
set_option maxHeartbeats 2000000
namespace Law
open PySem PySem.Spec PyProof.Rows L2 Md
/-- the deck: its cells at 0, itself at 1; at most b draws so far -/
def DkC (b : Nat) (c0 c1 : Cell) : Prop := ∃ (cs : List Int) (n : Int), c0 = .lst (cs.map D.int) ∧ c1 = .lst [.ref 0, .int n] ∧ cs.length ≤ 1000000 ∧ 0 ≤ n ∧ n ≤ (b : Int)
def Dk (b : Nat) (r : List Cell) (S : Sto) : Prop := ∃ c0 c1, S = c0 :: c1 :: r ∧ DkC b c0 c1
theorem DkC.mono {b b' : Nat} {c0 c1 : Cell} (h : DkC b c0 c1) (k : b ≤ b') : DkC b' c0 c1 := by
  obtain ⟨cs, n, e0, e1, z, n0, n1⟩ := h
  exact ⟨cs, n, e0, e1, z, n0, by omega⟩
theorem Dk.mono {b b' : Nat} {r : List Cell} {S : Sto} (h : Dk b r S) (k : b ≤ b') : Dk b' r S := by
  obtain ⟨c0, c1, rfl, h⟩ := h
  exact ⟨c0, c1, rfl, h.mono k⟩
theorem DkC.cut {b : Nat} {c0 c1 : Cell} (h : DkC b c0 c1) (n : Nat) (hn : 0 < n) : cellB n c0 = true ∧ cellB n c1 = true := by
  obtain ⟨cs, k, rfl, rfl, _⟩ := h
  refine ⟨refsBL_ints, ?_⟩
  simp [cellB, refsBL, refsB, hn]
/-- a def that draws -/
theorem def_draws {b b' n p : Nat} {ms : SD} {ds : List D} {r : List Cell} {S : Sto} {P : D → Prop} (hS : Dk b r S) (hp : ds.length = p)
    (h : (ms (startL n ds) S).Rt fun d S' => ∃ c0 c1 t d', S' = c0 :: c1 :: (r ++ t) ∧ DkC b' c0 c1 ∧ thaw 3 (r.length + 2) S' d = some d' ∧ P d') : (mDef n p ms ds S).To fun d S' => Dk b' r S' ∧ P d := by
  obtain ⟨a0, a1, rfl, hA⟩ := hS
  obtain ⟨d, S', e, c0, c1, t, d', rfl, hC, h2, hP⟩ := h
  refine ⟨d', c0 :: c1 :: r, ?_, ⟨c0, c1, rfl, hC⟩, hP⟩
  unfold mDef
  rw [if_pos hp, e]
  have tk : (c0 :: c1 :: (r ++ t)).take (a0 :: a1 :: r).length = c0 :: c1 :: r := by simp
  show need (thaw 3 (a0 :: a1 :: r).length _ d) _ = _
  rw [show (a0 :: a1 :: r).length = r.length + 2 from rfl] at tk ⊢
  rw [h2, tk]
  have cc := hC.cut (r.length + 2) (by omega)
  show guardO (cutC _ (a0 :: a1 :: r) (c0 :: c1 :: r)) _ = _
  rw [cutC, cutC, cutC_self]
  simp [cc.1, cc.2]
theorem cMul_c1 {j : Int} : cMul 11213 j = true := cMul_c (by decide) (by decide)
theorem cPow5 {i : Int} (h1 : 0 ≤ i) (h2 : i < 18446744073709551616) : cPow i 5 = true := decide_eq_true ⟨by decide, by decide, by omega⟩
theorem draw_to {b : Nat} {r : List Cell} {S : Sto} {m : Int} (hS : Dk b r S) (hb : b ≤ 1000000) (h0 : 0 < m) (h2 : m < 4611686018427387904) : (m__law_draw [.ref 1, .int m] S).To fun d S' => Dk (b + 1) r S' ∧ ∃ i, d = .int i ∧ 0 ≤ i ∧ i < m := by
  unfold m__law_draw
  refine def_draws (b' := b + 1) (P := fun d => ∃ i, d = .int i ∧ 0 ≤ i ∧ i < m) hS rfl ?_
  obtain ⟨c0, c1, rfl, cs, n, rfl, rfl, hz, n0, n1⟩ := hS
  have nm : m ≠ 0 := by omega
  have am : m.natAbs < 18446744073709551616 := by omega
  have small : ∀ x : Int, 0 ≤ x.fmod 2147483477 + 11213 * (n + 1) + 7 ∧ x.fmod 2147483477 + 11213 * (n + 1) + 7 < 18446744073709551616 := fun x => by
    obtain ⟨a, b⟩ := emod_lt (a := x) (b := 2147483477) (by decide)
    omega
  have pw : ∀ x : Int, cPow (x.fmod 2147483477 + 11213 * (n + 1) + 7) 5 = true := fun x => cPow5 (small x).1 (small x).2
  by_cases ne : cs = []
  · subst ne
    have pw0 : cPow (11213 * (n + 1) + 7) 5 = true := cPow5 (by omega) (by omega)
    simp [startL, fSet, ixN, cMul_c1, nm, am, cPow18, pw0]
    exact ⟨_, _, rfl, Cell.lst [], Cell.lst [.ref 0, .int (n + 1)], ⟨[], by rw [List.append_nil]⟩, ⟨[], n + 1, rfl, rfl, by simp, by omega, by omega⟩, _, thaw_ok rfl, _, rfl, emod_lt h0⟩
  · have ne0 := ne
    have ne : 0 < cs.length := List.length_pos_iff.mpr ne
    have hl : (0 : Int) < (cs.length : Nat) := by omega
    obtain ⟨k0, k1⟩ := emod_lt (a := n + 1) hl
    obtain ⟨K, hK⟩ : ∃ K : Nat, (n + 1).fmod (cs.length : Nat) = (K : Int) := ⟨((n + 1).fmod (cs.length : Nat)).toNat, by omega⟩
    have hKl : K < cs.length := by omega
    have hc : (cs.map D.int)[K]? = some (.int cs[K]) := by simp [hKl]
    have nl : ((cs.length : Nat) : Int) ≠ 0 := by omega
    have al : ((cs.length : Nat) : Int).natAbs < 18446744073709551616 := by omega
    by_cases hq : 1000000000000000000 ≤ cs[K]
    · simp [startL, fSet, ixN, cMul_c1, nm, am, cPow18, pw, ne0, ne, nl, al, hK, Md.atI_nat, hc, hq, hKl]
      exact ⟨_, _, rfl, Cell.lst ((cs.map D.int).set K (.int (cs[K].fdiv m))), Cell.lst [.ref 0, .int (n + 1)], ⟨[], by rw [List.append_nil]⟩, ⟨cs.set K (cs[K].fdiv m), n + 1, by rw [List.map_set], rfl, by simpa using hz, by omega, by omega⟩, _, thaw_ok rfl, _, rfl, emod_lt h0⟩
    · simp [startL, fSet, ixN, cMul_c1, nm, am, cPow18, pw, ne0, ne, nl, al, hK, Md.atI_nat, hc, hq, hKl]
      exact ⟨_, _, rfl, Cell.lst (cs.map D.int), Cell.lst [.ref 0, .int (n + 1)], ⟨[], by rw [List.append_nil]⟩, ⟨cs, n + 1, rfl, rfl, hz, by omega, by omega⟩, _, thaw_ok rfl, _, rfl, emod_lt h0⟩
/-- one of them -/
theorem one_to {b : Nat} {r : List Cell} {S : Sto} {xs : List D} (hS : Dk b r S) (hb : b ≤ 1000000) (h0 : xs ≠ []) (h1 : xs.length < 1000000) (ok : ∀ x ∈ xs, ∀ n, refsB n x = true) : (m__law_one [.ref 1, .lst xs] S).To fun d S' => Dk (b + 1) r S' ∧ d ∈ xs := by
  unfold m__law_one
  refine def_draws (b' := b + 1) (P := fun d => d ∈ xs) hS rfl ?_
  have hl : 0 < (xs.length : Int) := by
    have := List.length_pos_iff.mpr h0
    omega
  obtain ⟨d, S1, e1, hS1, i, rfl, i0, i1⟩ := draw_to hS hb hl (by omega)
  obtain ⟨x, hx, ex⟩ := atI_mem i0 i1
  obtain ⟨c0, c1, rfl, hC⟩ := hS1
  simp [startL, e1, ex]
  exact ⟨_, _, rfl, c0, c1, ⟨[], by rw [List.append_nil]⟩, hC, x, thaw_ok (ok x hx _), hx⟩
theorem kind_to {b : Nat} {r : List Cell} {S : Sto} {m : Nat} (hS : Dk b r S) (hb : b ≤ 900000) (h1 : m ≤ 3) : (m__law_kind [.ref 1, .int (m : Int)] S).To fun d S' => Dk (b + 2) r S' ∧ d ∈ kindsOf m := by
  unfold m__law_kind
  refine def_draws (b' := b + 2) (P := fun d => d ∈ kindsOf m) hS rfl ?_
  obtain ⟨d, S1, e1, hS1, i, rfl, i0, i1⟩ := draw_to (m := 199) hS (by omega) (by decide) (by decide)
  have go : ∀ (xs : List D), xs ≠ [] → xs.length < 1000000 → (∀ x ∈ xs, x ∈ kindsOf m) → [D.lst [.str "in", .str "in", .str "in", .int (i - 99), .int 0, .int 7], .lst [.str "neg"], .lst [.str "+", .str "-", .str "*"], .lst [.str "pick"]][m]? = some (.lst xs) →
      (b__law_kind (startL 3 [.ref 1, .int (m : Int)]) S).Rt fun d S' => ∃ c0 c1 t d', S' = c0 :: c1 :: (r ++ t) ∧ DkC (b + 2) c0 c1 ∧ thaw 3 (r.length + 2) S' d = some d' ∧ d' ∈ kindsOf m := by
    intro xs n0 nz hk e
    obtain ⟨d, S2, e2, ⟨c0, c1, rfl, hC⟩, hd⟩ := one_to hS1 (by omega) n0 nz fun x hx n => okD_refs (kinds_ok (hk x hx)).1
    simp [startL, e1, Md.atI_nat, e, e2]
    exact ⟨_, _, rfl, c0, c1, ⟨[], by rw [List.append_nil]⟩, hC, d, thaw_ok (okD_refs (kinds_ok (hk d hd)).1), hk d hd⟩
  have four : m = 0 ∨ m = 1 ∨ m = 2 ∨ m = 3 := by omega
  rcases four with rfl | rfl | rfl | rfl
  · refine go _ (by simp) (by simp) (fun x hx => ?_) rfl
    simp at hx
    rcases hx with rfl | rfl | rfl | rfl
    · simp [kindsOf]
    · exact kinds_int (by omega) (by omega)
    · exact kinds_int (by omega) (by omega)
    · exact kinds_int (by omega) (by omega)
  · exact go _ (by simp) (by simp) (by simp [kindsOf]) rfl
  · exact go _ (by simp) (by simp) (by simp [kindsOf]) rfl
  · exact go _ (by simp) (by simp) (by simp [kindsOf]) rfl
theorem mixed_to {b : Nat} {r : List Cell} {S : Sto} {xs : List D} (hS : Dk b r S) (hbb : b ≤ 900000) (hz : xs.length ≤ 1000) (ok : ∀ x ∈ xs, okD x = true) :
    (m__law_mixed [.ref 1, .lst xs] S).To fun d S' => Dk (b + xs.length) r S' ∧ ∃ ys, d = .lst ys ∧ ys.Perm xs := by
  unfold m__law_mixed
  refine def_draws (b' := b + xs.length) (P := fun d => ∃ ys, d = .lst ys ∧ ys.Perm xs) hS rfl ?_
  obtain ⟨c0, c1, rfl, hC⟩ := hS
  have hb : bnd62 (xs.length : Int) = true := bnd_small (by omega) (by omega)
  let I : Nat → Md.Loc → Sto → Prop := fun k l S => ∃ t a b' c0 c1, l = [some (.ref 1), some (.lst xs), some (.ref (r.length + 2)), some (.ref (r.length + 3)), t] ∧ S = c0 :: c1 :: (r ++ [.lst a, .lst b']) ∧ DkC (b + k) c0 c1 ∧ a.length + k = xs.length ∧ (a ++ b').Perm xs
  have hl : (rgD 0 xs.length).length = xs.length := by simp [rgD]
  have loop := for_to (ok := cellOk ⟨[], rgD 0 xs.length⟩) (mg := mgName 4) (ms := sCons (sExpr (mMet "list" fAppend (mVar 3) (mCons (mMet "list" fPop (mVar 2) (mCons (mFn m__law_draw (mCons (mVar 0) (mCons (mCall fLen (mCons (mVar 2) (mNil))) (mNil)))) (mNil))) (mNil)))) (sNil)) (rgD 0 xs.length) I
    (loc := [some (.ref 1), some (.lst xs), some (.ref (r.length + 2)), some (.ref (r.length + 3)), none]) (S := c0 :: c1 :: (r ++ [.lst xs, .lst []])) ⟨none, xs, [], c0, c1, rfl, rfl, hC.mono (by omega), by simp, by simp⟩ (fun _ _ _ _ _ => rfl)
    (fun k d l S hk p => by
      obtain ⟨t, a, v, c0, c1, rfl, rfl, hC, hab, hp⟩ := p
      obtain ⟨hk1, rfl⟩ := rgD_get hk
      refine ⟨_, rfl, ?_⟩
      have la : 0 < (a.length : Int) := by omega
      obtain ⟨d, S', e, ⟨c0', c1', rfl, hC'⟩, i, rfl, i0, i1⟩ := draw_to (b := b + k) (r := r ++ [.lst a, .lst v]) (S := c0 :: c1 :: (r ++ [.lst a, .lst v])) (m := a.length) ⟨c0, c1, rfl, hC⟩ (by omega) la (by omega)
      have hi : i.toNat < a.length := by omega
      refine ⟨_, c0' :: c1' :: (r ++ [.lst (a.eraseIdx i.toNat), .lst (v ++ [a[i.toNat]])]), ?_, some (.int (0 + (k : Int))), a.eraseIdx i.toNat, v ++ [a[i.toNat]], c0', c1', rfl, rfl, hC', ?_, ?_⟩
      · have lb : v.length ≤ 1000000 := by
          have := hp.length_eq
          rw [List.length_append] at this
          omega
        have cnd : (0 ≤ i ∧ i < (a.length : Int) ∧ a.length ≤ 1000000) := ⟨i0, i1, by omega⟩
        simp [tyIs, at_2, at_3, set_2, set_3, e, fPop, fAppend, cellL, hi, lb, cnd]
      · rw [List.length_eraseIdx_of_lt hi]
        omega
      · refine List.Perm.trans ?_ hp
        have h1 : (a[i.toNat] :: a.eraseIdx i.toNat).Perm a := erase_perm hi
        refine List.Perm.trans ?_ (h1.append_right v)
        rw [← List.append_assoc]
        exact List.perm_append_singleton _ _)
  rw [hl] at loop
  obtain ⟨l', S', e, t, a, v, c0', c1', rfl, rfl, hC', hab, hp⟩ := loop
  have ha : a = [] := List.eq_nil_of_length_eq_zero (by omega)
  subst ha
  have hp : v.Perm xs := by simpa using hp
  have st : sPar 2 3 (mCons (mCall fListO (mCons (mVar 1) (mNil))) (mCons (mLstO (mNil)) mNil)) (startL 5 [.ref 1, .lst xs]) (c0 :: c1 :: r) = .nx [some (.ref 1), some (.lst xs), some (.ref (r.length + 2)), some (.ref (r.length + 3)), none] (c0 :: c1 :: (r ++ [.lst xs, .lst []])) := by simp [startL]
  have fr : ∀ ms, ms = sCons (sExpr (mMet "list" fAppend (mVar 3) (mCons (mMet "list" fPop (mVar 2) (mCons (mFn m__law_draw (mCons (mVar 0) (mCons (mCall fLen (mCons (mVar 2) (mNil))) (mNil)))) (mNil))) (mNil)))) (sNil) → sFor (mRng1 (mCons (mCall fLen (mCons (mVar 1) (mNil))) (mNil))) (mgName 4) ms [some (.ref 1), some (.lst xs), some (.ref (r.length + 2)), some (.ref (r.length + 3)), none] (c0 :: c1 :: (r ++ [.lst xs, .lst []])) = .nx [some (.ref 1), some (.lst xs), some (.ref (r.length + 2)), some (.ref (r.length + 3)), t] (c0' :: c1' :: (r ++ [.lst [], .lst v])) := fun ms hms => by
    rw [← hms] at e
    simp [hb, e]
  refine ⟨_, _, ?_, c0', c1', [.lst [], .lst v], .lst v, rfl, hC', thaw_ref (by omega) at_3 (okL_refs ?_), v, rfl, hp⟩
  · exact (sCons_nx st).trans ((sCons_nx (fr _ rfl)).trans rfl)
  · have := okL_map (f := id) (xs := v) fun x hx => ok x (hp.subset hx)
    simpa using this
theorem renum_run {n l : Nat} {w : Web} {row : List Int} {S : Sto} (hn : n ≤ 1000) (hw : WebOk n w) (hc : S[l]? = some (.lst (w.map encS))) (hp : row.Perm ((List.range w.length).map fun (i : Nat) => (i : Int))) :
    m__law_renumbered [.ref l, .lst (row.map D.int)] S = .ok (encW (numW w row)) S := by
  have hl : row.length = w.length := by rw [hp.length_eq]; simp
  have hz : w.length ≤ 1000 := Nat.le_trans hw.1 hn
  unfold m__law_renumbered
  refine def_pure rfl ?_
  have there : ∀ k : Nat, k < w.length → (k : Int) ∈ row := fun k hk => hp.symm.subset (List.mem_map.mpr ⟨k, List.mem_range.mpr hk, rfl⟩)
  obtain ⟨place, hpl⟩ : ∃ place : Int → Nat, ∀ one, place one = (row.findIdx? fun z => decide (z = one)).getD 0 := ⟨_, fun _ => rfl⟩
  obtain ⟨pl, hp0⟩ : ∃ pl : D → D, ∀ i, pl (.int i) = .int (place i : Nat) := ⟨fun d => match d with | .int i => .int (place i : Nat) | d => d, fun _ => rfl⟩
  obtain ⟨fs, hf0⟩ : ∃ fs : D → D, ∀ s, fs (.int s) = encS ((w.getD s.toNat (.non, [])).1, (w.getD s.toNat (.non, [])).2.map fun one => (place one : Int)) := ⟨fun d => match d with | .int s => encS ((w.getD s.toNat (.non, [])).1, (w.getD s.toNat (.non, [])).2.map fun one => (place one : Int)) | d => d, fun _ => rfl⟩
  have atw : ∀ k : Nat, k < w.length → (w.map encS)[k]? = some (encS (w.getD k (.non, []))) := fun k hk => by simp [hk]
  have l2 : lcGo (cellOk ⟨[], row.map D.int⟩) (mgName 2) mYes (mTup (mCons (mOp fIx (mOp fIx (mVar 0) (mVar 2)) (mC (.int 0))) (mCons (mCall fTuple (mCons (mLcF finL (mSeq (mOp fIx (mOp fIx (mVar 0) (mVar 2)) (mC (.int 1)))) (mgName 3) (mYes) (mMet "list" fIndex (mVar 1) (mCons (mVar 3) (mNil))) [3]) (mNil))) (mNil)))) [some (.ref l), some (.lst (row.map D.int)), none, none] (row.map D.int) [] S
      = .ok ((row.map D.int).map fs) S := by
    refine lc_map rfl _ _ (by simp; omega) fun d hd => ?_
    obtain ⟨s, hs, rfl⟩ := List.mem_map.mp hd
    obtain ⟨k, hk, rfl⟩ := List.mem_map.mp (hp.subset hs)
    have hk := List.mem_range.mp hk
    refine ⟨_, rfl, ?_⟩
    have e1 := atw k hk
    have ok := hw.2.1 w[k] (List.getElem_mem hk)
    have ew : w.getD k (.non, []) = w[k] := by simp [hk]
    rw [ew] at e1
    have inner : lcGo (cellOk ⟨[], w[k].2.map D.int⟩) (mgName 3) mYes (mMet "list" fIndex (mVar 1) (mCons (mVar 3) (mNil))) [some (.ref l), some (.lst (row.map D.int)), some (.int k), none] (w[k].2.map D.int) [] S = .ok ((w[k].2.map D.int).map pl) S := by
      refine lc_map rfl _ _ (by simp; have := ok.2.1; omega) fun d hd => ?_
      obtain ⟨one, ho, rfl⟩ := List.mem_map.mp hd
      have hb := ok.2.2 one ho
      obtain ⟨j, rfl⟩ : ∃ j : Nat, one = (j : Int) := ⟨one.toNat, by omega⟩
      obtain ⟨i, ej, hj⟩ := find_there (there j (by omega))
      refine ⟨_, rfl, ?_⟩
      simp [tyIs, fIndex, idxD_ints, ej, hp0, hpl]
    have ef : fs (.int (k : Int)) = .tup [w[k].1, .tup ((w[k].2.map D.int).map pl)] := by
      rw [hf0]
      have : w.getD ((k : Int).toNat) (.non, []) = w[k] := by simp [hk]
      rw [this]
      unfold encS
      simp only [List.map_map]
      congr 5
      funext x
      exact (hp0 x).symm
    rw [ef]
    simp [atI_nat', hc, e1, wipeL, inner]
  have fin : b__law_renumbered (startL 4 [.ref l, .lst (row.map D.int)]) S = .rt (encW (numW w row)) S := by
    have z1 : row.length ≤ 1000000 := by omega
    have en : encW (numW w row) = .tup ((row.map D.int).map fs) := by
      unfold encW numW
      rw [List.map_map, List.map_map]
      congr 2
      funext x
      simp only [Function.comp, hf0, hpl]
    rw [en]
    simp [startL, wipeL, l2, -r_tup, -List.map_map]
  exact ⟨_, _, fin, by simp, thaw_ok (okD_refs (encW_ok (numW_ok hw hp)))⟩
noncomputable abbrev wovBody : SD := (sCons (sSet 6 (mCall fMin (mCons (mFn m__law_one (mCons (mVar 0) (mCons (mLst (mCons (mC (.int 0)) (mCons (mC (.int 0)) (mCons (mC (.int 1)) (mCons (mC (.int 2)) (mCons (mC (.int 2)) (mCons (mC (.int 3)) (mNil)))))))) (mNil)))) (mCons (mCall fLen (mCons (mVar 3) (mNil))) (mNil)))))
    (sCons (sSet 7 (mIf (mTru (mVar 2)) (mSl (mVar 3) (mPart none) (mPart (some (mVar 6)))) (mSl (mVar 3) (mPart (some (mOp fSub (mCall fLen (mCons (mVar 3) (mNil))) (mVar 6)))) (mPart none))))
    (sCons (sSet 3 (mIf (mTru (mVar 2)) (mSl (mVar 3) (mPart (some (mVar 6))) (mPart none)) (mSl (mVar 3) (mPart none) (mPart (some (mOp fSub (mCall fLen (mCons (mVar 3) (mNil))) (mVar 6)))))))
    (sCons (sExpr (mMet "list" fAppend (mVar 4) (mCons (mTup (mCons (mFn m__law_kind (mCons (mVar 0) (mCons (mVar 6) (mNil)))) (mCons (mCall fTuple (mCons (mFn m__law_mixed (mCons (mVar 0) (mCons (mVar 7) (mNil)))) (mNil))) (mNil)))) (mNil))))
    (sCons (sSet 3 (mOp fAdd (mVar 3) (mOp fMul (mLst (mCons (mVar 5) (mNil))) (mFn m__law_draw (mCons (mVar 0) (mCons (mC (.int 4)) (mNil)))))))
    (sNil))))))
abbrev WL (most : Int) (q : Bool) (r : List Cell) (ps : List Int) (t5 t6 t7 : Option D) : Md.Loc := [some (.ref 1), some (.int most), some (.bl q), some (.lst (ps.map D.int)), some (.ref (r.length + 2)), t5, t6, t7, none]
def WovInv (b : Nat) (r : List Cell) (most : Int) (q : Bool) (k : Nat) (l : Md.Loc) (S : Sto) : Prop := ∃ (t5 t6 t7 : Option D) (c0 c1 : Cell) (w : Web) (ps : List Int), l = WL most q r ps t5 t6 t7 ∧ S = c0 :: c1 :: (r ++ [.lst (w.map encS)]) ∧ DkC (b + 7 * k) c0 c1 ∧ w.length = k ∧
  (∀ (j : Nat) (p : D × List Int), w[j]? = some p → StepOk 0 j p) ∧ (∀ p ∈ ps, 0 ≤ p ∧ p < (k : Int)) ∧ ps.length ≤ 3 * k
theorem wov_body {b : Nat} {r : List Cell} {most : Int} {q : Bool} {k : Nat} {l : Md.Loc} {S : Sto} (hb : b ≤ 100000) (hk : k ≤ 100) (h : WovInv b r most q k l S) : (wovBody (l.set 5 (some (.int (0 + (k : Int))))) S).To (WovInv b r most q (k + 1)) := by
  obtain ⟨t5, t6, t7, c0, c1, w, ps, rfl, rfl, hC, hw, hok, hps, hpl⟩ := h
  obtain ⟨d, S1, e1, hS1, hd⟩ := one_to (b := b + 7 * k) (r := r ++ [.lst (w.map encS)]) (S := c0 :: c1 :: (r ++ [.lst (w.map encS)])) (xs := [D.int 0, .int 0, .int 1, .int 2, .int 2, .int 3]) ⟨c0, c1, rfl, hC⟩ (by omega) (by simp) (by simp) (fun x hx n => by simp at hx; rcases hx with rfl | rfl | rfl | rfl <;> rfl)
  obtain ⟨d0, d1, rfl, hD1⟩ := hS1
  obtain ⟨m0, rfl, a1⟩ : ∃ m : Nat, d = .int m ∧ m ≤ 3 := by
    simp at hd
    rcases hd with rfl | rfl | rfl | rfl
    · exact ⟨0, rfl, by decide⟩
    · exact ⟨1, rfl, by decide⟩
    · exact ⟨2, rfl, by decide⟩
    · exact ⟨3, rfl, by decide⟩
  obtain ⟨m, em, b1, b2⟩ : ∃ m : Nat, min (m0 : Int) (ps.length : Nat) = m ∧ m ≤ ps.length ∧ m ≤ 3 := ⟨min m0 ps.length, by omega, by omega, by omega⟩
  -- what is taken, what is left
  obtain ⟨tk, rs, etk, ers, ltk, lrs, itk, irs⟩ : ∃ tk rs : List Int, (∀ S, (mIf (mTru (mVar 2)) (mSl (mVar 3) (mPart none) (mPart (some (mVar 6)))) (mSl (mVar 3) (mPart (some (mOp fSub (mCall fLen (mCons (mVar 3) (mNil))) (mVar 6)))) (mPart none))) (WL most q r ps (some (.int (k : Int))) (some (.int (m : Int))) t7) S = .ok (.lst (tk.map D.int)) S) ∧
      (∀ S t7, (mIf (mTru (mVar 2)) (mSl (mVar 3) (mPart (some (mVar 6))) (mPart none)) (mSl (mVar 3) (mPart none) (mPart (some (mOp fSub (mCall fLen (mCons (mVar 3) (mNil))) (mVar 6)))))) (WL most q r ps (some (.int (k : Int))) (some (.int (m : Int))) t7) S = .ok (.lst (rs.map D.int)) S) ∧ tk.length = m ∧ rs.length ≤ ps.length ∧ (∀ p ∈ tk, p ∈ ps) ∧ (∀ p ∈ rs, p ∈ ps) := by
    have hz : (ps.map D.int).length = ps.length := by simp
    have ct : Md.cutD (ps.map D.int) (some ((ps.length : Int) - m)) none = (ps.map D.int).drop (ps.length - m) := by
      have := cut_tail (ds := ps.map D.int) (m := m) (by simp; exact b1)
      rw [hz] at this
      rw [this]
    have ch : Md.cutD (ps.map D.int) none (some ((ps.length : Int) - m)) = (ps.map D.int).take (ps.length - m) := by
      have := cut_head (ds := ps.map D.int) (m := m) (by simp; exact b1)
      rw [hz] at this
      rw [this]
    cases q with
    | true =>
      refine ⟨ps.take m, ps.drop m, fun S => ?_, fun S t7 => ?_, by simp; omega, by simp, fun p => List.mem_of_mem_take, fun p => List.mem_of_mem_drop⟩
      · simp [WL, truD, cut_to]
      · simp [WL, truD, cut_from]
    | false =>
      refine ⟨ps.drop (ps.length - m), ps.take (ps.length - m), fun S => ?_, fun S t7 => ?_, by simp; omega, by simp, fun p => List.mem_of_mem_drop, fun p => List.mem_of_mem_take⟩
      · simp [WL, truD, ct]
      · simp [WL, truD, ch]
  obtain ⟨kd, S2, e2, hS2, hkd⟩ := kind_to (b := b + 7 * k + 1) (r := r ++ [.lst (w.map encS)]) (S := d0 :: d1 :: (r ++ [.lst (w.map encS)])) (m := m) ⟨d0, d1, rfl, hD1⟩ (by omega) b2
  obtain ⟨d, S3, e3, hS3, ys, rfl, hys⟩ := mixed_to (xs := tk.map D.int) hS2 (by omega) (by simp; omega) (fun x hx => by obtain ⟨y, _, rfl⟩ := List.mem_map.mp hx; rfl)
  obtain ⟨ns, rfl, hns⟩ := perm_ints hys
  obtain ⟨c0', c1', rfl, hC'⟩ := hS3
  have hC' : DkC (b + 7 * k + 6) c0' c1' := hC'.mono (by simp; omega)
  obtain ⟨d, S4, e4, hS4, g, rfl, g0, g1⟩ := draw_to (b := b + 7 * k + 6) (r := r ++ [.lst (w.map encS ++ [encS (kd, ns)])]) (S := c0' :: c1' :: (r ++ [.lst (w.map encS ++ [encS (kd, ns)])])) (m := 4) ⟨c0', c1', rfl, hC'⟩ (by omega) (by decide) (by decide)
  obtain ⟨G, rfl⟩ : ∃ G : Nat, g = (G : Int) := ⟨g.toNat, by omega⟩
  obtain ⟨c2, c3, rfl, hC2⟩ := hS4
  have lw : w.length ≤ 1000000 := by omega
  have zn : ns.length ≤ 3 := by rw [hns.length_eq, ltk]; exact b2
  refine ⟨WL most q r (rs ++ List.replicate G (k : Int)) (some (.int (k : Int))) (some (.int (m : Int))) (some (.lst (tk.map D.int))), _, ?_, some (.int (k : Int)), some (.int (m : Int)), some (.lst (tk.map D.int)), c2, c3, w ++ [(kd, ns)], rs ++ List.replicate G (k : Int), rfl, by rw [List.map_append, List.map_singleton], hC2.mono (by omega), by simp [hw], fun j p hp => ?_, fun p hp => ?_, ?_⟩
  · have enc1 : encS (kd, ns) = .tup [kd, .tup (ns.map D.int)] := rfl
    have s1 : sSet 6 (mCall fMin (mCons (mFn m__law_one (mCons (mVar 0) (mCons (mLst (mCons (mC (.int 0)) (mCons (mC (.int 0)) (mCons (mC (.int 1)) (mCons (mC (.int 2)) (mCons (mC (.int 2)) (mCons (mC (.int 3)) (mNil)))))))) (mNil)))) (mCons (mCall fLen (mCons (mVar 3) (mNil))) (mNil)))) ((WL most q r ps t5 t6 t7).set 5 (some (.int (0 + (k : Int))))) (c0 :: c1 :: (r ++ [.lst (w.map encS)])) =
        .nx (WL most q r ps (some (.int (k : Int))) (some (.int (m : Int))) t7) (d0 :: d1 :: (r ++ [.lst (w.map encS)])) := by
      simp [WL, e1, em]
    have s2 : ∀ S, sSet 7 (mIf (mTru (mVar 2)) (mSl (mVar 3) (mPart none) (mPart (some (mVar 6)))) (mSl (mVar 3) (mPart (some (mOp fSub (mCall fLen (mCons (mVar 3) (mNil))) (mVar 6)))) (mPart none))) (WL most q r ps (some (.int (k : Int))) (some (.int (m : Int))) t7) S = .nx (WL most q r ps (some (.int (k : Int))) (some (.int (m : Int))) (some (.lst (tk.map D.int)))) S := fun S => by
      show ((mIf _ _ _) (WL most q r ps (some (.int (k : Int))) (some (.int (m : Int))) t7) S).thn _ _ = _
      rw [etk]
      rfl
    have s3 : ∀ S, sSet 3 (mIf (mTru (mVar 2)) (mSl (mVar 3) (mPart (some (mVar 6))) (mPart none)) (mSl (mVar 3) (mPart none) (mPart (some (mOp fSub (mCall fLen (mCons (mVar 3) (mNil))) (mVar 6)))))) (WL most q r ps (some (.int (k : Int))) (some (.int (m : Int))) (some (.lst (tk.map D.int)))) S = .nx (WL most q r rs (some (.int (k : Int))) (some (.int (m : Int))) (some (.lst (tk.map D.int)))) S := fun S => by
      show ((mIf _ _ _) (WL most q r ps (some (.int (k : Int))) (some (.int (m : Int))) (some (.lst (tk.map D.int)))) S).thn _ _ = _
      rw [ers]
      rfl
    have s4 : sExpr (mMet "list" fAppend (mVar 4) (mCons (mTup (mCons (mFn m__law_kind (mCons (mVar 0) (mCons (mVar 6) (mNil)))) (mCons (mCall fTuple (mCons (mFn m__law_mixed (mCons (mVar 0) (mCons (mVar 7) (mNil)))) (mNil))) (mNil)))) (mNil))) (WL most q r rs (some (.int (k : Int))) (some (.int (m : Int))) (some (.lst (tk.map D.int)))) (d0 :: d1 :: (r ++ [.lst (w.map encS)])) =
        .nx (WL most q r rs (some (.int (k : Int))) (some (.int (m : Int))) (some (.lst (tk.map D.int)))) (c0' :: c1' :: (r ++ [.lst (w.map encS ++ [encS (kd, ns)])])) := by
      simp [WL, tyIs, at_b2, e2, e3, set_b2, cellL, fAppend, lw, enc1]
    have z3 : rs.length + G ≤ 1000000 := by omega
    have z4 : (-1000 : Int) ≤ G ∧ (G : Int) ≤ 1000 := by omega
    have s5 : sCons (sSet 3 (mOp fAdd (mVar 3) (mOp fMul (mLst (mCons (mVar 5) (mNil))) (mFn m__law_draw (mCons (mVar 0) (mCons (mC (.int 4)) (mNil))))))) sNil (WL most q r rs (some (.int (k : Int))) (some (.int (m : Int))) (some (.lst (tk.map D.int)))) (c0' :: c1' :: (r ++ [.lst (w.map encS ++ [encS (kd, ns)])])) =
        .nx (WL most q r (rs ++ List.replicate G (k : Int)) (some (.int (k : Int))) (some (.int (m : Int))) (some (.lst (tk.map D.int)))) (c2 :: c3 :: (r ++ [.lst (w.map encS ++ [encS (kd, ns)])])) := by
      simp [WL, e4, rep_one, z3, z4]
    exact (sCons_nx s1).trans ((sCons_nx (s2 _)).trans ((sCons_nx (s3 _)).trans ((sCons_nx s4).trans s5)))
  · by_cases hj : j < w.length
    · rw [List.getElem?_append_left hj] at hp
      exact hok j p hp
    · have hj2 := (List.getElem?_eq_some_iff.mp hp).1
      have ej : j = w.length := by simp at hj2; omega
      subst ej
      simp at hp
      subst hp
      refine ⟨by show kd ∈ kindsOf ns.length; rw [hns.length_eq, ltk]; exact hkd, zn, fun i hi => ?_⟩
      have := hps i (itk i (hns.subset hi))
      omega
  · rcases List.mem_append.mp hp with h | h
    · have := hps p (irs p h)
      omega
    · have := List.eq_of_mem_replicate h
      omega
  · simp
    omega
theorem woven_to {b : Nat} {r : List Cell} {S : Sto} {most : Nat} {q : Bool} (hS : Dk b r S) (hb : b ≤ 90000) (h0 : 0 < most) (h1 : most ≤ 10) :
    (m__law_woven [.ref 1, .int most, .bl q] S).To fun d S' => Dk (b + 100) r S' ∧ ∃ (w : Web) (row : List Int), d = .tup [encW w, .tup (((List.range w.length).map fun (k : Nat) => (((row.findIdx? fun z => decide (z = (k : Int))).getD 0 : Nat) : Int)).map D.int)] ∧ WebOk most w ∧ row.Perm ((List.range w.length).map fun (i : Nat) => (i : Int)) := by
  unfold m__law_woven
  refine def_draws (b' := b + 100) (P := fun d => ∃ (w : Web) (row : List Int), d = .tup [encW w, .tup (((List.range w.length).map fun (k : Nat) => (((row.findIdx? fun z => decide (z = (k : Int))).getD 0 : Nat) : Int)).map D.int)] ∧ WebOk most w ∧ row.Perm ((List.range w.length).map fun (i : Nat) => (i : Int))) hS rfl ?_
  obtain ⟨c0, c1, rfl, hC⟩ := hS
  obtain ⟨d, S1, e1, ⟨a0, a1, rfl, hA⟩, m, rfl, m0, m1⟩ := draw_to (b := b) (r := r ++ [.lst []]) (S := c0 :: c1 :: (r ++ [.lst []])) (m := most) ⟨c0, c1, rfl, hC⟩ (by omega) (by omega) (by omega)
  have hbn : bnd62 (1 + m) = true := bnd_small (by omega) (by omega)
  obtain ⟨n, en⟩ : ∃ n : Nat, (1 + m).toNat = n ∧ n ≤ most := ⟨(1 + m).toNat, rfl, by omega⟩
  have hl : (rgD 0 n).length = n := by simp [rgD]
  have loop := for_to (ok := cellOk ⟨[], rgD 0 n⟩) (mg := mgName 5) (ms := wovBody) (rgD 0 n) (WovInv (b + 1) r most q) (loc := WL most q r [] none none none) (S := a0 :: a1 :: (r ++ [.lst []]))
    ⟨none, none, none, a0, a1, [], [], rfl, rfl, hA, rfl, by simp, by simp, by simp⟩ (fun _ _ _ _ _ => rfl) (fun k d l S hk p => by
      obtain ⟨hk1, rfl⟩ := rgD_get hk
      exact ⟨_, rfl, wov_body (by omega) (by omega) p⟩)
  rw [hl] at loop
  obtain ⟨l', S', e, t5, t6, t7, c2, c3, w, ps, rfl, rfl, hC2, hw, hok, _, _⟩ := loop
  have ok : WebOk most w := webOk_of (by omega) (by omega) hok
  have st : sPar 3 4 (mCons (mLst (mNil)) (mCons (mLstO (mNil)) mNil)) (startL 9 [.ref 1, .int most, .bl q]) (c0 :: c1 :: r) = .nx (WL most q r [] none none none) (c0 :: c1 :: (r ++ [.lst []])) := by simp [startL, WL]
  have fr : ∀ ms, ms = wovBody → sFor (mRng1 (mCons (mOp fAdd (mC (.int 1)) (mFn m__law_draw (mCons (mVar 0) (mCons (mVar 1) (mNil))))) (mNil))) (mgName 5) ms (WL most q r [] none none none) (c0 :: c1 :: (r ++ [.lst []]))
      = .nx (WL most q r ps t5 t6 t7) (c2 :: c3 :: (r ++ [.lst (w.map encS)])) := fun ms hms => by
    rw [← hms] at e
    rw [← e]
    simp [WL, e1, hbn, en.1]
  obtain ⟨d, S5, e5, hS5, ys, rfl, hys⟩ := mixed_to (b := b + 1 + 7 * n) (r := r ++ [.lst (w.map encS)]) (S := c2 :: c3 :: (r ++ [.lst (w.map encS)])) (xs := rgD 0 w.length) ⟨c2, c3, rfl, hC2⟩ (by omega) (by simp [rgD]; omega) (fun x hx => by
    unfold rgD at hx
    obtain ⟨y, _, rfl⟩ := List.mem_map.mp hx
    rfl)
  rw [rgD_eq] at hys
  have ez : ((List.range w.length).map fun (i : Nat) => (0 : Int) + (i : Int)) = (List.range w.length).map fun (i : Nat) => (i : Int) := by
    congr 1
    funext i
    omega
  rw [ez] at hys
  obtain ⟨row, rfl, hrow⟩ := perm_ints hys
  obtain ⟨x0, x1, rfl, hX⟩ := hS5
  have hX : DkC (b + 100) x0 x1 := hX.mono (by simp [rgD]; omega)
  have lN : (numW w row).length = w.length := by unfold numW; rw [List.length_map, hrow.length_eq]; simp
  have er := renum_run (n := most) (l := r.length + 2) (w := w) (row := row) (S := x0 :: x1 :: (r ++ [.lst (w.map encS)])) (by omega) ok at_b2 hrow
  have hbw : bnd62 (w.length : Int) = true := bnd_small (by omega) (by omega)
  obtain ⟨os, hos⟩ : ∃ os, os = (List.range w.length).map fun (k : Nat) => (((row.findIdx? fun z => decide (z = (k : Int))).getD 0 : Nat) : Int) := ⟨_, rfl⟩
  have there : ∀ k : Nat, k < w.length → (k : Int) ∈ row := fun k hk => hrow.symm.subset (List.mem_map.mpr ⟨k, List.mem_range.mpr hk, rfl⟩)
  have l1 : ∀ S, lcGo (cellOk ⟨[], rgD 0 w.length⟩) (mgName 5) mYes (mMet "list" fIndex (mVar 8) (mCons (mVar 5) (mNil))) [some (.ref 1), some (.int most), some (.bl q), some (.lst (ps.map D.int)), some (.ref (r.length + 2)), none, t6, t7, some (.lst (row.map D.int))] (rgD 0 w.length) [] S = .ok (os.map D.int) S := fun S => by
    obtain ⟨pl, hp0⟩ : ∃ pl : D → D, ∀ i, pl (.int i) = .int (((row.findIdx? fun z => decide (z = i)).getD 0 : Nat) : Int) := ⟨fun d => match d with | .int i => .int (((row.findIdx? fun z => decide (z = i)).getD 0 : Nat) : Int) | d => d, fun _ => rfl⟩
    rw [lc_map rfl pl (rgD 0 w.length) (by simp [rgD]; omega) fun d hd => by
      unfold rgD at hd
      obtain ⟨k, hk, rfl⟩ := List.mem_map.mp hd
      obtain ⟨j, ej, hj⟩ := find_there (there k (List.mem_range.mp hk))
      refine ⟨_, rfl, ?_⟩
      simp [tyIs, fIndex, idxD_ints, ej, hp0]]
    rw [rgD_eq, ez, hos, List.map_map, List.map_map, List.map_map]
    congr 2
    funext k
    exact hp0 k
  have rg : ∀ S, fRg 0 0 (w.length : Int) S = .ok (.lst (rgD 0 w.length)) S := fun S => by
    rw [fRg0 (by omega) (by omega) (by omega) (by omega)]
    simp
  have s8 : sSet 8 (mFn m__law_mixed (mCons (mVar 0) (mCons (mRgL1 (mCall fLen (mCons (mVar 4) (mNil)))) (mNil)))) (WL most q r ps t5 t6 t7) (c2 :: c3 :: (r ++ [.lst (w.map encS)])) =
      .nx [some (.ref 1), some (.int most), some (.bl q), some (.lst (ps.map D.int)), some (.ref (r.length + 2)), t5, t6, t7, some (.lst (row.map D.int))] (x0 :: x1 :: (r ++ [.lst (w.map encS)])) := by
    simp [WL, at_b2, rg, e5]
  have s9 : sCons (sRet (mTup (mCons (mFn m__law_renumbered (mCons (mVar 4) (mCons (mVar 8) (mNil)))) (mCons (mCall fTuple (mCons (mLcF finL (mRng1 (mCons (mCall fLen (mCons (mVar 4) (mNil))) (mNil))) (mgName 5) (mYes) (mMet "list" fIndex (mVar 8) (mCons (mVar 5) (mNil))) [5]) (mNil))) (mNil))))) sNil
      [some (.ref 1), some (.int most), some (.bl q), some (.lst (ps.map D.int)), some (.ref (r.length + 2)), t5, t6, t7, some (.lst (row.map D.int))] (x0 :: x1 :: (r ++ [.lst (w.map encS)])) = .rt (.tup [encW (numW w row), .tup (os.map D.int)]) (x0 :: x1 :: (r ++ [.lst (w.map encS)])) := by
    simp [er, at_b2, hbw, wipeL, l1]
  refine ⟨_, _, (sCons_nx st).trans ((sCons_nx (fr _ rfl)).trans ((sCons_nx s8).trans s9)), x0, x1, [.lst (w.map encS)], _, rfl, hX, thaw_ok ?_, numW w row, row, by rw [lN, ← hos], numW_ok ok hrow, by rw [lN]; exact hrow⟩
  exact okD_refs (by rw [okD, okL, okL, okL, encW_ok (numW_ok ok hrow), okD, okL_ints]; rfl)
theorem deck_run {ns : List Int} (h : ns.length ≤ 63) : ∃ S, m__law_deck [.scr ns] [] = .ok (.ref 1) S ∧ Dk 0 [] S := by
  have ct : Md.cutD (ns.map D.int) none (some 63) = ns.map D.int := by
    have := cut_to (ds := ns.map D.int) (m := 63)
    rw [show ((63 : Nat) : Int) = 63 from rfl] at this
    rw [this]
    exact List.take_of_length_le (by simp; omega)
  obtain ⟨fa, ha⟩ : ∃ fa : D → D, ∀ i, fa (.int i) = .int (if i < 0 then -i else i) := ⟨fun d => match d with | .int i => .int (if i < 0 then -i else i) | d => d, fun _ => rfl⟩
  have l1 : lcGo (cellOk ⟨[], ns.map D.int⟩) (mgName 1) mYes (mCall fAbs (mCons (mVar 1) (mNil))) [some (.scr ns), none] (ns.map D.int) [] [] = .ok ((ns.map D.int).map fa) [] := by
    refine lc_map rfl _ _ (by simp; omega) fun d hd => ?_
    obtain ⟨i, _, rfl⟩ := List.mem_map.mp hd
    exact ⟨_, rfl, by simp [ha]⟩
  obtain ⟨cs, ecs, lcs⟩ : ∃ cs : List Int, (ns.map D.int).map fa = cs.map D.int ∧ cs.length = ns.length := ⟨ns.map fun i => if i < 0 then -i else i, by rw [List.map_map, List.map_map]; congr 1; funext i; exact ha i, by simp⟩
  have ok : b__law_deck (startL 2 [.scr ns]) [] = .rt (.ref 1) [.lst (cs.map D.int), .lst [.ref 0, .int 0]] := by
    have sl : ∀ S : Sto, slD S (.scr ns) none (some 63) = some (.lst (ns.map D.int)) := fun S => by
      show some (D.lst (Md.cutD (ns.map D.int) none (some 63))) = _
      rw [ct]
    rw [ecs] at l1
    simp [startL, sl, wipeL, l1]
  refine ⟨_, ?_, _, _, rfl, cs, 0, rfl, rfl, by omega, by decide, by decide⟩
  unfold m__law_deck mDefU
  rw [if_pos (show [D.scr ns].length = 1 from rfl), ok]
  rfl

end Law

set_option Elab.async false
set_option linter.all false
set_option maxRecDepth 100000
set_option maxHeartbeats 2000000
namespace Law
open PySem PySem.Spec PyProof.Rows L2 Md
theorem enumD_get {ds : List D} {k : Nat} {d : D} (h : (enumD ds)[k]? = some d) : ∃ x, ds[k]? = some x ∧ d = .wtu [.int (k : Nat), x] := by
  unfold enumD at h
  rw [List.getElem?_map, List.getElem?_zipIdx] at h
  cases e : ds[k]? with
  | none => rw [e] at h; cases h
  | some x => rw [e] at h; simp at h; exact ⟨x, rfl, h.symm⟩
theorem enum_ints {ns : List Int} : enumD (ns.map D.int) = ns.zipIdx.map fun q => .wtu [.int (q.2 : Nat), .int q.1] := by
  unfold enumD
  rw [List.zipIdx_map, List.map_map]
  rfl

end Law

set_option Elab.async false
set_option linter.all false
set_option maxRecDepth 100000
set_option maxHeartbeats 2000000
namespace Law
open PySem PySem.Spec PyProof.Rows L2 Md
/-! ### values of any kind -/
def valT : D → Bool
  | .adr _ => false
  | .ref _ => false
  | .fn _ => false
  | .scr _ => false
  | .wtu _ => false
  | _ => true
def valD : D → Bool
  | .tup ds => ds.all valT
  | d => valT d
def inR (hi : Int) : D → Bool
  | .int i => decide (0 ≤ i) && decide (i ≤ hi)
  | _ => false
def tyN : D → String
  | .non => "NoneType"
  | .bl _ => "bool"
  | .int _ => "int"
  | .str _ => "str"
  | .tup _ => "tuple"
  | .edc => "dict"
  | _ => "list"
theorem ty_of {d : D} {S : Sto} (h : valT d = true) : tyD S d = some (tyN d) := by cases d <;> first | rfl | cases h
def isIntB : D → Bool
  | .int _ => true
  | .bl _ => true
  | _ => false
def isBlB : D → Bool
  | .bl _ => true
  | _ => false
def isTupB : D → Bool
  | .tup _ => true
  | _ => false
theorem kit_int {d : D} (h : valT d = true) : kitB (tyN d) "int" = some (isIntB d) := by
  cases d with
  | non => decide +kernel
  | bl b => show kitB "bool" "int" = some true; decide +kernel
  | int i => show kitB "int" "int" = some true; decide +kernel
  | str i => show kitB "str" "int" = some false; decide +kernel
  | tup i => show kitB "tuple" "int" = some false; decide +kernel
  | lst i => show kitB "list" "int" = some false; decide +kernel
  | lsx i => show kitB "list" "int" = some false; decide +kernel
  | edc => decide +kernel
  | _ => cases h
theorem kit_bool {d : D} (h : valT d = true) : kitB (tyN d) "bool" = some (isBlB d) := by
  cases d with
  | non => decide +kernel
  | bl b => show kitB "bool" "bool" = some true; decide +kernel
  | int i => show kitB "int" "bool" = some false; decide +kernel
  | str i => show kitB "str" "bool" = some false; decide +kernel
  | tup i => show kitB "tuple" "bool" = some false; decide +kernel
  | lst i => show kitB "list" "bool" = some false; decide +kernel
  | lsx i => show kitB "list" "bool" = some false; decide +kernel
  | edc => decide +kernel
  | _ => cases h
theorem kit_tuple {d : D} (h : valT d = true) : kitB (tyN d) "tuple" = some (isTupB d) := by
  cases d with
  | non => decide +kernel
  | bl b => show kitB "bool" "tuple" = some false; decide +kernel
  | int i => show kitB "int" "tuple" = some false; decide +kernel
  | str i => show kitB "str" "tuple" = some false; decide +kernel
  | tup i => show kitB "tuple" "tuple" = some true; decide +kernel
  | lst i => show kitB "list" "tuple" = some false; decide +kernel
  | lsx i => show kitB "list" "tuple" = some false; decide +kernel
  | edc => decide +kernel
  | _ => cases h
theorem isi_int {d : D} {S : Sto} (h : valT d = true) : fIsi "int" d S = .ok (.bl (isIntB d)) S := by
  unfold fIsi
  rw [ty_of h, need_some, kit_int h, need_some]
theorem isi_bool {d : D} {S : Sto} (h : valT d = true) : fIsi "bool" d S = .ok (.bl (isBlB d)) S := by
  unfold fIsi
  rw [ty_of h, need_some, kit_bool h, need_some]
theorem isi_tuple {d : D} {S : Sto} (h : valT d = true) : fIsi "tuple" d S = .ok (.bl (isTupB d)) S := by
  unfold fIsi
  rw [ty_of h, need_some, kit_tuple h, need_some]
theorem sortU_len (ns : List Int) : (sortU ns).length ≤ ns.length := by
  refine List.Nodup.length_le_of_subset ?_ fun x hx => sortU_mem.mp hx
  exact (sortU_lt ns).imp fun h => by omega
theorem sortU_perm {n : Nat} {ns : List Int} (hl : ns.length = n) (hr : ∀ i ∈ ns, 0 ≤ i ∧ i < (n : Int)) : (sortU ns).length = n ↔ ns.Perm (rangeI n) := by
  constructor
  · intro h
    refine perm_sub rangeI_nd (fun x hx => ?_) (by rw [rangeI_len]; omega)
    have sub : ∀ y ∈ sortU ns, y ∈ rangeI n := fun y hy => rangeI_mem.mpr (hr y (sortU_mem.mp hy))
    have nd : (sortU ns).Nodup := (sortU_lt ns).imp fun h => by omega
    have p := perm_sub nd sub (by rw [rangeI_len]; omega)
    exact sortU_mem.mp (p.mem_iff.mp hx)
  · intro p
    have e : sortU ns = rangeI n := lt_uniq (sortU_lt ns) rangeI_lt fun k => by rw [sortU_mem]; exact p.mem_iff
    rw [e, rangeI_len]
theorem leD_int (a b : Int) : leD (.int a) (.int b) = decide (a ≤ b) := congrFun (congrFun (PySem.W.dataLe_int (fun b : Int => b)) a) b
theorem sort_ints {p q : List Int} (nd : p.Nodup) (hq : q.Pairwise (· < ·)) (hm : ∀ k, k ∈ p ↔ k ∈ q) : (p.map D.int).mergeSort leD = q.map D.int := by
  rw [← List.map_mergeSort (r := fun a b : Int => decide (a ≤ b)) fun a _ b _ => (leD_int a b).symm]
  congr 1
  have perm : (p.mergeSort fun a b => decide (a ≤ b)).Perm p := List.mergeSort_perm _ _
  have pw := List.pairwise_mergeSort (le := fun a b : Int => decide (a ≤ b)) (fun a b c h1 h2 => by simp at h1 h2 ⊢; omega) (fun a b => by simp; omega) p
  have nd2 : (p.mergeSort fun a b => decide (a ≤ b)).Nodup := perm.nodup_iff.mpr nd
  refine lt_uniq ?_ hq fun k => by rw [perm.mem_iff]; exact hm k
  exact (pw.and nd2).imp fun {a b} h => by
    have h1 := of_decide_eq_true h.1
    have h2 := h.2
    omega
open Classical in
noncomputable def rowB (n : Nat) (d : D) : Bool := decide (∃ ns : List Int, d = .tup (ns.map D.int) ∧ ns.Perm (rangeI n))
theorem rowB_iff {n : Nat} {d : D} : rowB n d = true ↔ ∃ ns : List Int, d = .tup (ns.map D.int) ∧ ns.Perm (rangeI n) := by
  unfold rowB
  simp only [decide_eq_true_eq]
theorem rowB_no {n : Nat} {d : D} (h : ¬ ∃ ns : List Int, d = .tup (ns.map D.int) ∧ ns.Perm (rangeI n)) : rowB n d = false := by
  rw [Bool.eq_false_iff]
  exact fun z => h (rowB_iff.mp z)
theorem ints_of {hi : Int} : ∀ {ds : List D}, ds.all (inR hi) = true → ∃ ns : List Int, ds = ns.map D.int ∧ ∀ i ∈ ns, 0 ≤ i ∧ i ≤ hi
  | [], _ => ⟨[], rfl, by simp⟩
  | d :: ds, h => by
    rw [List.all_cons, Bool.and_eq_true] at h
    obtain ⟨ns, rfl, hn⟩ := ints_of h.2
    cases d with
    | int i =>
      have h1 : (decide (0 ≤ i) && decide (i ≤ hi)) = true := h.1
      rw [Bool.and_eq_true, decide_eq_true_eq, decide_eq_true_eq] at h1
      exact ⟨i :: ns, rfl, fun j hj => by
        rcases List.mem_cons.mp hj with rfl | q
        · exact h1
        · exact hn j q⟩
    | _ => cases h.1
theorem map_int_inj {ns ms : List Int} (h : ns.map D.int = ms.map D.int) : ns = ms := by
  induction ns generalizing ms with
  | nil => cases ms with
    | nil => rfl
    | cons => cases h
  | cons n ns ih => cases ms with
    | nil => cases h
    | cons m ms =>
      rw [List.map_cons, List.map_cons, List.cons.injEq, D.int.injEq] at h
      rw [h.1, ih h.2]
theorem intsD_of' (ns : List Int) : intsD (ns.map D.int) = some ns := by
  induction ns with
  | nil => rfl
  | cons n ns ih => rw [List.map_cons, intsD, ih]; rfl
theorem bools_of {bs : List Bool} : boolsD (bs.map D.bl) = some bs := by
  induction bs with
  | nil => rfl
  | cons b bs ih => rw [List.map_cons, boolsD, ih]; rfl
theorem all_of {bs : List Bool} {S : Sto} : fAll [.lst (bs.map D.bl)] S = .ok (.bl (bs.all id)) S := by
  unfold fAll onBools
  simp only [q_lstL, need_some, bools_of]
theorem eqD_nilL {S : Sto} {ds : List D} (h1 : okL ds = true) (h2 : nbL ds = true) (h3 : depL ds ≤ 60) : eqD S (.lst ds) (.lst []) = some ds.isEmpty := by
  rw [eqD_is (by rw [okD]; exact h1) rfl (by rw [nbD]; exact h2) rfl (by rw [dep]; omega) (by decide)]
  cases ds <;> simp
theorem row_perm_len {n : Nat} {ns : List Int} (h : ns.Perm (rangeI n)) : ns.length = n := by rw [h.length_eq, rangeI_len]

end Law

set_option Elab.async false
set_option linter.all false
set_option maxRecDepth 100000
set_option maxHeartbeats 2000000
namespace Law
open PySem PySem.Spec PyProof.Rows L2 Md
theorem rgD_range {n : Nat} : rgD 0 n = (rangeI n).map D.int := by
  rw [rgD_eq]
  unfold rangeI
  congr 1
  apply List.map_congr_left
  intro k _
  omega
theorem rg_is {n : Nat} {S : Sto} (hn : n ≤ 1000) : fRg 0 0 (n : Int) S = .ok (.lst ((rangeI n).map D.int)) S := by
  have := fRg0 (i := 0) (j := (n : Int)) (S := S) (by omega) (by omega) (by omega) (by omega)
  rw [this]
  rw [show ((n : Int) - 0).toNat = n by omega, rgD_range]

end Law

set_option Elab.async false
set_option linter.all false
set_option maxRecDepth 100000
set_option maxHeartbeats 2000000
namespace Law
open PySem PySem.Spec PyProof.Rows L2 Md
theorem eqD_lists {S : Sto} {ns ms : List Int} : eqD S (.lst (ns.map D.int)) (.lst (ms.map D.int)) = some (decide (ns = ms)) := by
  have h : ∀ ns : List Int, okD (.lst (ns.map D.int)) = true := fun ns => by rw [okD]; exact okL_ints
  have h2 : ∀ ns : List Int, nbD (.lst (ns.map D.int)) = true := fun ns => by rw [nbD]; exact nbL_ints
  have h3 : ∀ ns : List Int, dep (.lst (ns.map D.int)) ≤ 64 := fun ns => by rw [dep, depL_ints]; decide
  rw [eqD_is (h ns) (h ms) (h2 ns) (h2 ms) (h3 ns) (h3 ms)]
  congr 1
  rw [Bool.eq_iff_iff, decide_eq_true_eq, decide_eq_true_eq]
  constructor
  · intro e
    injection e with e
    exact map_int_inj e
  · rintro rfl; rfl
theorem q0 {S : Sto} : eqD S (.lst []) (.lst []) = some true := eqD_nilL rfl rfl (by decide)

end Law

set_option Elab.async false
set_option linter.all false
set_option maxRecDepth 100000
set_option maxHeartbeats 2000000
namespace Law
open PySem PySem.Spec PyProof.Rows L2 Md
/-! ### loops that may return -/
def firstN (g : Nat → Option D) : Nat → Nat → Option D
  | _, 0 => none
  | i, n + 1 => match g i with
    | some r => some r
    | none => firstN g (i + 1) n
theorem for_ret {ok : Sto → Bool} {mg : TD} {ms : SD} (ds : List D) (I : Nat → Md.Loc → Sto → Prop) (g : Nat → Option D) (R : Sto → Prop) {loc : Md.Loc} {S : Sto} (h0 : I 0 loc S) (hok : ∀ i l S, i ≤ ds.length → I i l S → ok S = true)
    (hs : ∀ i d l S, ds[i]? = some d → I i l S → ∃ l', mg d l = some l' ∧ ((g i = none ∧ (ms l' S).To (I (i + 1))) ∨ ∃ r, g i = some r ∧ (ms l' S).Rt fun d S' => d = r ∧ R S')) :
    (firstN g 0 ds.length = none ∧ (forGo ok mg ms ds loc S).To (I ds.length)) ∨ ∃ r, firstN g 0 ds.length = some r ∧ (forGo ok mg ms ds loc S).Rt fun d S' => d = r ∧ R S' := by
  suffices h : ∀ (q : List D) (i : Nat) (loc : Md.Loc) (S : Sto), ds.drop i = q → i ≤ ds.length → I i loc S → (firstN g i q.length = none ∧ (forGo ok mg ms q loc S).To (I ds.length)) ∨ ∃ r, firstN g i q.length = some r ∧ (forGo ok mg ms q loc S).Rt fun d S' => d = r ∧ R S' from h ds 0 loc S rfl (Nat.zero_le _) h0
  intro q
  induction q with
  | nil =>
    intro i loc S hr hi p
    have : i = ds.length := by
      have := List.drop_eq_nil_iff.mp hr
      omega
    subst this
    left
    refine ⟨rfl, ?_⟩
    show (guardS (ok S) (.nx loc S)).To _
    rw [hok _ _ _ (Nat.le_refl _) p]
    exact .ok p
  | cons d q ih =>
    intro i loc S hr hi p
    have hlt : i < ds.length := by
      rcases Nat.lt_or_ge i ds.length with h | h
      · exact h
      · rw [List.drop_eq_nil_of_le h] at hr; cases hr
    have hd : ds[i]? = some d := by
      have := List.getElem?_drop (xs := ds) (i := i) (j := 0)
      rw [hr] at this
      simpa using this.symm
    have hr' : ds.drop (i + 1) = q := by
      rw [← List.drop_drop, hr]; rfl
    obtain ⟨l', e1, h⟩ := hs i d loc S hd p
    have un : forGo ok mg ms (d :: q) loc S = loopS (ms l' S) (forGo ok mg ms q) := by
      show guardS (ok S) (needS (mg d loc) fun l => loopS (ms l S) (forGo ok mg ms q)) = _
      rw [hok _ _ _ hi p, e1]; rfl
    rw [un]
    have fn : firstN g i (d :: q).length = match g i with | some r => some r | none => firstN g (i + 1) q.length := rfl
    rw [fn]
    rcases h with ⟨hg, l2, S2, e2, p2⟩ | ⟨r, hg, d', S', e2, rfl, hR⟩
    · rw [hg, e2]
      exact ih (i + 1) l2 S2 hr' hlt p2
    · rw [hg, e2]
      exact .inr ⟨_, rfl, _, _, rfl, rfl, hR⟩
theorem sFor_nx {mi : WD} {mg : TD} {ms : SD} {loc : Md.Loc} {S S1 : Sto} {src : Src} (h : mi loc S = .ok src S1) : sFor mi mg ms loc S = forGo (cellOk src) mg ms src.ds loc S1 := by
  show (mi loc S).thn _ _ = _
  rw [h]; rfl

end Law

set_option Elab.async false
set_option linter.all false
set_option maxRecDepth 100000
set_option maxHeartbeats 2000000
namespace Law
open PySem PySem.Spec PyProof.Rows L2 Md
abbrev T3 := Int × Int × Int
def encT (t : T3) : D := .tup [.int t.1, .int t.2.1, .int t.2.2]
def rowT (p : D × List Int) (t : Nat) : List T3 := p.2.zipIdx.map fun q => (q.1, (t : Int), (q.2 : Int))
def tiesT (w : Web) : List T3 := w.zipIdx.flatMap fun p => rowT p.1 p.2
theorem tiesT_take {w : Web} {k : Nat} (h : k < w.length) : tiesT (w.take (k + 1)) = tiesT (w.take k) ++ rowT w[k] k := by
  unfold tiesT
  rw [List.take_succ_eq_append_getElem h, List.zipIdx_append, List.flatMap_append]
  simp [Nat.min_eq_left (Nat.le_of_lt h)]
theorem rowT_len (p : D × List Int) (t : Nat) : (rowT p t).length = p.2.length := by simp [rowT]
theorem tiesT_len {n : Nat} {w : Web} (hw : WebOk n w) : ∀ k, k ≤ w.length → (tiesT (w.take k)).length ≤ 3 * k
  | 0, _ => by simp [tiesT]
  | k + 1, h => by
    have ih := tiesT_len hw k (by omega)
    have ok := hw.2.1 w[k] (List.getElem_mem (by omega))
    rw [tiesT_take (by omega), List.length_append, rowT_len]
    have := ok.2.1
    omega
theorem at_end {S : List Cell} {x : Cell} : (S ++ [x])[S.length]? = some x := by simp
theorem set_end {S : List Cell} {x z : Cell} : (S ++ [x]).set S.length z = S ++ [z] := by
  rw [List.set_append_right _ _ (Nat.le_refl _)]
  simp
theorem okT {ts : List T3} : okL (ts.map encT) = true := okL_map fun _ _ => rfl
theorem pyT {ts : List T3} : pyEL (ts.map encT) = ts.map fun t => PyData.tuple [.int t.1, .int t.2.1, .int t.2.2] := by
  induction ts with
  | nil => rfl
  | cons t ts ih => rw [List.map_cons, pyEL, ih]; rfl
theorem sortT {ts : List T3} (h : ts.length ≤ 1000000) : sortOk (pyEL (ts.map encT)) = true := by
  rw [pyT]
  unfold sortOk
  simp only [Bool.and_eq_true, List.all_map, List.all_eq_true, Function.comp, List.length_map, small_of h, Bool.or_eq_true, decide_eq_true_eq]
  refine ⟨⟨⟨fun x _ y _ => ?_, .inl fun x _ => rfl⟩, fun x _ => ?_⟩, trivial⟩
  · rfl
  · show 0 + 1 ≤ 30
    decide
/-- the ties, in order -/
noncomputable def duesD (w : Web) : List D := ((tiesT w).map encT).mergeSort leD
theorem dues_T (w : Web) : ∃ us : List T3, duesD w = us.map encT ∧ us.Perm (tiesT w) := by
  have h : (duesD w).Perm ((tiesT w).map encT) := List.mergeSort_perm _ _
  let un : D → T3 := fun d => match d with | .tup [.int a, .int b, .int c] => (a, b, c) | _ => (0, 0, 0)
  refine ⟨(duesD w).map un, ?_, ?_⟩
  · rw [List.map_map]
    have all : ∀ y ∈ duesD w, encT (un y) = y := fun y hy => by
      obtain ⟨t, _, rfl⟩ := List.mem_map.mp (h.subset hy)
      rfl
    have key : ∀ ys : List D, (∀ y ∈ ys, encT (un y) = y) → ys = ys.map (encT ∘ un) := fun ys => by
      induction ys with
      | nil => exact fun _ => rfl
      | cons y ys ih => exact fun q => by rw [List.map_cons, Function.comp, q y (by simp), ← ih fun z hz => q z (by simp [hz])]
    exact key _ all
  · have := h.map un
    rw [List.map_map] at this
    simpa [Function.comp_def, un, encT] using this
theorem dues_ok (w : Web) : okL (duesD w) = true := by
  obtain ⟨us, e, _⟩ := dues_T w
  rw [e]
  exact okT
theorem r3_at {k : Nat} {d : D} {n : Nat} (h : (rgD 0 n)[k]? = some d) : k < n ∧ d = .int (k : Int) := by
  obtain ⟨h1, h2⟩ := rgD_get h
  exact ⟨h1, by rw [h2]; simp⟩
/-- where an input stands -/
def enc2 (t : T3) : D := .tup [.int t.2.1, .int t.2.2]
theorem ok2 {ts : List T3} : okL (ts.map enc2) = true := okL_map fun _ _ => rfl
noncomputable abbrev inpBody : SD := sCons (sExpr (mMet "list" fExtend (mVar 1) (mCons (mLcF finL (mRng1 (mCons (mCall fLen (mCons (mOp fIx (mOp fIx (mVar 0) (mVar 2)) (mC (.int 1))) (mNil))) (mNil))) (mgName 3) (mYes) (mTup (mCons (mVar 2) (mCons (mVar 3) (mNil)))) [3]) (mNil))))
    (sNil)
theorem linputs_run {n : Nat} {w : Web} {S : Sto} (hn : n ≤ 1000) (hw : WebOk n w) : m__law_inputs [encW w] S = .ok (.lst ((tiesT w).map enc2)) S := by
  unfold m__law_inputs
  refine def_pure rfl ?_
  let I : Nat → Md.Loc → Sto → Prop := fun k l S' => ∃ a b, l = [some (encW w), some (.ref S.length), a, b] ∧ S' = S ++ [.lst ((tiesT (w.take k)).map enc2)]
  have hl : (rgD 0 w.length).length = w.length := by simp [rgD]
  have body : ∀ k l S', k < w.length → I k l S' → (inpBody (l.set 2 (some (.int (k : Int)))) S').To (I (k + 1)) := by
    rintro k l S' hkw ⟨a, b, rfl, rfl⟩
    have ok := hw.2.1 w[k] (List.getElem_mem hkw)
    have l3 := ok.2.1
    have inner : ∀ S', lcGo (cellOk ⟨[], rgD 0 w[k].2.length⟩) (mgName 3) mYes (mTup (mCons (mVar 2) (mCons (mVar 3) (mNil)))) [some (encW w), some (.ref S.length), some (.int (k : Nat)), none] (rgD 0 w[k].2.length) [] S' = .ok ((rowT w[k] k).map enc2) S' := fun S' => by
      obtain ⟨f, hf⟩ : ∃ f : D → D, ∀ i : Nat, f (.int (i : Int)) = .tup [.int (k : Nat), .int (i : Nat)] := ⟨fun d => match d with | .int i => .tup [.int (k : Nat), .int i] | d => d, fun i => by simp⟩
      have e1 : (rowT w[k] k).map enc2 = (rgD 0 w[k].2.length).map f := by
        apply List.ext_getElem?
        intro i
        unfold rowT rgD
        simp only [List.getElem?_map, List.getElem?_zipIdx, List.map_map]
        by_cases hi : i < w[k].2.length
        · simp [hi, hf, enc2]
        · simp [hi]
      rw [e1]
      refine lc_map rfl _ _ (by simp [rgD]; omega) fun d hd => ?_
      unfold rgD at hd
      obtain ⟨i, hi, rfl⟩ := List.mem_map.mp hd
      refine ⟨_, rfl, ?_⟩
      rw [show (0 : Int) + (i : Int) = (i : Int) by omega]
      simp [hf]
    refine ⟨_, S ++ [.lst ((tiesT (w.take (k + 1))).map enc2)], ?_, some (.int (k : Nat)), b, rfl, rfl⟩
    rw [tiesT_take hkw, List.map_append]
    have z : (tiesT (w.take k)).length + w[k].2.length ≤ 1000000 := by
      have := tiesT_len hw k (by omega)
      have := hw.1
      omega
    have hz : ((tiesT (w.take k)).map enc2).length + ((rowT w[k] k).map enc2).length ≤ 1000000 := by simp [rowT_len]; exact z
    simp only [List.length_map] at hz
    have hb : bnd62 (w[k].2.length : Int) = true := bnd_small (by omega) (by omega)
    have ew : (w.map encS)[k]? = some (encS w[k]) := by simp [hkw]
    simp [tyIs, fExtend, cellL, wipeL, inner, at_end, set_end, hz, hb, atI_nat', ew, -List.map_append, -List.getElem?_map]
  have loop := for_to (ok := cellOk ⟨[], rgD 0 w.length⟩) (mg := mgName 2) (ms := inpBody) (rgD 0 w.length) I (loc := [some (encW w), some (.ref S.length), none, none]) (S := S ++ [.lst []]) ⟨none, none, rfl, by simp [tiesT]⟩ (fun _ _ _ _ _ => rfl) (fun k d l S' hk p => by
      obtain ⟨h1, rfl⟩ := r3_at hk
      exact ⟨_, rfl, body k l S' h1 p⟩)
  rw [hl] at loop
  obtain ⟨l', S', e, a, b, rfl, rfl⟩ := loop
  rw [List.take_length] at e
  have hb : bnd62 (w.length : Int) = true := bnd_small (by omega) (by have := hw.1; omega)
  have st : sSet 1 (mLstO (mNil)) (startL 4 [encW w]) S = .nx [some (encW w), some (.ref S.length), none, none] (S ++ [.lst []]) := by simp [startL]
  have fr : ∀ ms, ms = inpBody → sFor (mRng1 (mCons (mCall fLen (mCons (mVar 0) (mNil))) (mNil))) (mgName 2) ms [some (encW w), some (.ref S.length), none, none] (S ++ [.lst []]) = .nx [some (encW w), some (.ref S.length), a, b] (S ++ [.lst ((tiesT w).map enc2)]) := fun ms hms => by
    rw [← hms] at e
    simp [hb, e]
  have body : b__law_inputs (startL 4 [encW w]) S = .rt (.ref S.length) (S ++ [.lst ((tiesT w).map enc2)]) := (sCons_nx st).trans ((sCons_nx (fr _ rfl)).trans rfl)
  exact ⟨_, _, body, by simp, thaw_ref (by omega) at_end (okL_refs ok2)⟩
theorem tie_at {w : Web} {t : T3} (h : t ∈ tiesT w) : ∃ k j : Nat, t.2.1 = (k : Int) ∧ t.2.2 = (j : Int) ∧ ∃ hk : k < w.length, w[k].2[j]? = some t.1 := by
  unfold tiesT at h
  obtain ⟨p, hp, h⟩ := List.mem_flatMap.mp h
  rw [List.mem_zipIdx_iff_getElem?] at hp
  obtain ⟨hk, e⟩ := List.getElem?_eq_some_iff.mp hp
  unfold rowT at h
  obtain ⟨q, hq, rfl⟩ := List.mem_map.mp h
  rw [List.mem_zipIdx_iff_getElem?] at hq
  exact ⟨p.2, q.2, rfl, rfl, hk, by rw [e]; exact hq⟩
theorem lties_run {n : Nat} {w : Web} {S : Sto} (hn : n ≤ 1000) (hw : WebOk n w) : m__law_ties [encW w] S = .ok (.lst (duesD w)) S := by
  unfold m__law_ties
  refine def_pure rfl ?_
  have z : (tiesT w).length ≤ 1000000 := by
    have := tiesT_len hw w.length (Nat.le_refl _)
    rw [List.take_length] at this
    have := hw.1
    omega
  obtain ⟨f, hf⟩ : ∃ f : D → D, ∀ k j : Nat, f (.tup [.int (k : Int), .int (j : Int)]) = .tup [.int ((w.getD k (.non, [])).2.getD j 0), .int (k : Int), .int (j : Int)] := ⟨fun d => match d with | .tup [.int k, .int j] => .tup [.int ((w.getD k.toNat (.non, [])).2.getD j.toNat 0), .int k, .int j] | d => d, fun k j => by simp⟩
  have l1 : lcGo (cellOk ⟨[], (tiesT w).map enc2⟩) (mgTup 2 (mgCons (mgName 1) (mgCons (mgName 2) (mgNil)))) mYes (mTup (mCons (mOp fIx (mOp fIx (mOp fIx (mVar 0) (mVar 1)) (mC (.int 1))) (mVar 2)) (mCons (mVar 1) (mCons (mVar 2) (mNil))))) [some (encW w), none, none] ((tiesT w).map enc2) [] S = .ok ((tiesT w).map encT) S := by
    rw [lc_map rfl f ((tiesT w).map enc2) (by simpa using z) fun d hd => by
      obtain ⟨t, ht, rfl⟩ := List.mem_map.mp hd
      obtain ⟨k, j, e1, e2, hk, e3⟩ := tie_at ht
      have ew : (w.map encS)[k]? = some (encS w[k]) := by simp [hk]
      have ei : (w[k].2.map D.int)[j]? = some (.int t.1) := by rw [List.getElem?_map, e3]; rfl
      refine ⟨_, rfl, ?_⟩
      unfold enc2
      rw [e1, e2, hf]
      have : (w.getD k (.non, [])).2.getD j 0 = t.1 := by simp [hk, e3]
      rw [this]
      simp [atI_nat', ew, ei, -List.getElem?_map]]
    rw [List.map_map]
    congr 1
    apply List.map_congr_left
    intro t ht
    obtain ⟨k, j, e1, e2, hk, e3⟩ := tie_at ht
    show f (D.tup [D.int t.2.1, D.int t.2.2]) = D.tup [D.int t.1, D.int t.2.1, D.int t.2.2]
    rw [e1, e2, hf]
    have : (w.getD k (.non, [])).2.getD j 0 = t.1 := by simp [hk, e3]
    rw [this]
  have ei := linputs_run (S := S) hn hw
  refine ⟨.lst (duesD w), S, ?_, by simp, thaw_ok (okD_refs (by rw [okD]; exact dues_ok w))⟩
  simp [startL, ei, wipeL, l1, pyDL_ok okT, sortT z, duesD]
theorem tiesT_len' {n : Nat} {w : Web} (hn : n ≤ 10) (hw : WebOk n w) : (tiesT w).length ≤ 30 := by
  have := tiesT_len hw w.length (Nat.le_refl _)
  rw [List.take_length] at this
  have := hw.1
  omega
theorem ties_in {n : Nat} {w : Web} {t : T3} (hw : WebOk n w) (h : t ∈ tiesT w) : 0 ≤ t.1 ∧ t.1 < (w.length : Int) := by
  obtain ⟨k, j, _, _, hk, e⟩ := tie_at h
  exact (hw.2.1 w[k] (List.getElem_mem hk)).2.2 t.1 (List.mem_of_getElem? e)

end Law

set_option Elab.async false
set_option linter.all false
set_option maxRecDepth 100000
set_option maxHeartbeats 2000000
namespace Law
open PySem PySem.Spec PyProof.Rows L2 Md
/-! ### the takers of each step -/
def tkI (us : List T3) (k : Nat) : List Int := (us.filter fun t => decide (t.1 = (k : Int))).map (·.2.1)
def tkC (us : List T3) (n : Nat) : List Cell := (List.range n).map fun k => Cell.lst ((tkI us k).map D.int)
def refsL (m n : Nat) : List D := (List.range n).map fun k => D.ref (m + k)
theorem tkC_len {us : List T3} {n : Nat} : (tkC us n).length = n := by simp [tkC]
theorem tkC_at {us : List T3} {n k : Nat} (h : k < n) : (tkC us n)[k]? = some (.lst ((tkI us k).map D.int)) := by simp [tkC, h]
theorem tkC_set {us : List T3} {t : T3} {n g : Nat} (hg : g < n) (ht : t.1 = (g : Int)) : (tkC us n).set g (.lst ((tkI us g).map D.int ++ [.int t.2.1])) = tkC (us ++ [t]) n := by
  apply List.ext_getElem?
  intro i
  rw [List.getElem?_set]
  by_cases hi : i < n
  · by_cases e : g = i
    · subst e
      rw [if_pos rfl, if_pos (by rw [tkC_len]; exact hg), tkC_at hg]
      congr 2
      unfold tkI
      rw [List.filter_append]
      simp [ht]
    · rw [if_neg e, tkC_at hi, tkC_at hi]
      congr 2
      unfold tkI
      rw [List.filter_append]
      have : ¬ t.1 = (i : Int) := by omega
      simp [this]
  · have h1 : (tkC us n)[i]? = none := List.getElem?_eq_none (by rw [tkC_len]; omega)
    have h2 : (tkC (us ++ [t]) n)[i]? = none := List.getElem?_eq_none (by rw [tkC_len]; omega)
    rw [if_neg (by omega), h1, h2]
theorem at_app {S C : List Cell} {g : Nat} : (S ++ C)[S.length + g]? = C[g]? := by
  rw [List.getElem?_append_right (by omega)]
  congr 1
  omega
theorem set_app {S C : List Cell} {g : Nat} {c : Cell} : (S ++ C).set (S.length + g) c = S ++ C.set g c := by
  rw [List.set_append_right _ _ (by omega)]
  congr 2
  omega
theorem thaw_refs {n : Nat} {S C : List Cell} : ∀ (ks : List Nat) (ls : List (List Int)), ks.length = ls.length → (∀ (i k : Nat) (l : List Int), ks[i]? = some k → ls[i]? = some l → C[k]? = some (.lst (l.map D.int))) →
    thawL (thaw 2 S.length (S ++ C)) (ks.map fun k => D.ref (S.length + k)) = some (ls.map fun l => D.lst (l.map D.int))
  | [], [], _, _ => rfl
  | k :: ks, l :: ls, hl, h => by
    have h0 := h 0 k l rfl rfl
    have e : (S ++ C)[S.length + k]? = some (.lst (l.map D.int)) := by rw [at_app]; exact h0
    have ih := thaw_refs (n := n) (S := S) ks ls (by simpa using hl) fun i k' l' a b => h (i + 1) k' l' a b
    rw [List.map_cons, List.map_cons, thawL, thaw_ref (by omega) e refsBL_ints, ih]

end Law

set_option Elab.async false
set_option linter.all false
set_option maxRecDepth 100000
set_option maxHeartbeats 2000000
namespace Law
open PySem PySem.Spec PyProof.Rows L2 Md
theorem for_first {ok : Sto → Bool} {mg : TD} {ms : SD} {S : Sto} (hok : ok S = true) {I : Md.Loc → Prop} (f : D → Option D) : ∀ (xs : List D),
    (∀ d ∈ xs, ∀ l, I l → ∃ l', mg d l = some l' ∧ ((f d = none ∧ ∃ l2, ms l' S = .nx l2 S ∧ I l2) ∨ ∃ r, f d = some r ∧ ms l' S = .rt r S)) →
    ∀ l, I l → (xs.findSome? f = none ∧ ∃ l2, forGo ok mg ms xs l S = .nx l2 S ∧ I l2) ∨ ∃ r, xs.findSome? f = some r ∧ forGo ok mg ms xs l S = .rt r S
  | [], _, l, hl => .inl ⟨rfl, l, by show guardS (ok S) (.nx l S) = _; rw [hok]; rfl, hl⟩
  | d :: xs, h, l, hl => by
    obtain ⟨l', e1, h1⟩ := h d (by simp) l hl
    have un : forGo ok mg ms (d :: xs) l S = loopS (ms l' S) (forGo ok mg ms xs) := by
      show guardS (ok S) (needS (mg d l) fun l => loopS (ms l S) (forGo ok mg ms xs)) = _
      rw [hok, e1]
      rfl
    rw [un, List.findSome?_cons]
    rcases h1 with ⟨f0, l2, e2, i2⟩ | ⟨r, f1, e2⟩
    · rw [f0, e2]
      exact for_first hok f xs (fun x hx => h x (by simp [hx])) l2 i2
    · rw [f1, e2]
      exact .inr ⟨r, rfl, rfl⟩
theorem findSome_map {α β γ : Type} {f : α → Option β} {g : β → γ} : ∀ xs : List α, xs.findSome? (fun x => (f x).map g) = (xs.findSome? f).map g
  | [] => rfl
  | x :: xs => by
    rw [List.findSome?_cons, List.findSome?_cons]
    cases f x with
    | none => exact findSome_map xs
    | some b => rfl
theorem findSome_enc {β : Type} {f : D → Option β} {h : T3 → Option β} (e : ∀ t, f (encT t) = h t) : ∀ us : List T3, (us.map encT).findSome? f = us.findSome? h
  | [] => rfl
  | t :: us => by
    rw [List.map_cons, List.findSome?_cons, List.findSome?_cons, e]
    cases h t with
    | none => exact findSome_enc e us
    | some b => rfl
def TsOk (n : Nat) (us : List T3) : Prop := ∀ t ∈ us, t.1 ∈ rangeI n ∧ t.2.1 ∈ rangeI n
@[simp] theorem ixT0 {S : Sto} {t : T3} : ixD S (encT t) (.int 0) = some (.int t.1) := rfl
@[simp] theorem ixT1 {S : Sto} {t : T3} : ixD S (encT t) (.int 1) = some (.int t.2.1) := rfl
theorem eqT_nil {S : Sto} {us : List T3} : eqD S (.lst (us.map encT)) (.lst []) = some us.isEmpty := by
  rw [eqD_nilL okT (nbL_map fun _ _ => rfl) (Nat.le_trans (depL_map (n := 1) fun t _ => (show max 0 (max 0 (max 0 0)) + 1 ≤ 1 by decide)) (by decide)), List.isEmpty_map]

end Law

set_option Elab.async false
set_option linter.all false
set_option maxRecDepth 100000
set_option maxHeartbeats 2000000
namespace Law
open PySem PySem.Spec PyProof.Rows L2 Md
/-! ### orders on a pile -/
/-- the inputs of a step -/
def inp (w : Web) (s : Int) : List Int := (w.getD s.toNat (.non, [])).2
/-- how many ties of takers outside the row have g as giver -/
def needN (w : Web) (row : List Int) (g : Int) : Nat := (((rangeI w.length).filter fun t => !decide (t ∈ row)).map fun t => (inp w t).count g).sum
def FR (q : Int → Nat) (row : List Int) : List Int := row.flatMap fun g => List.replicate (q g) g
theorem FR_nil {q : Int → Nat} : FR q [] = [] := rfl
theorem FR_cons {q : Int → Nat} {g : Int} {r : List Int} : FR q (g :: r) = List.replicate (q g) g ++ FR q r := rfl
theorem FR_app {q : Int → Nat} {a b : List Int} : FR q (a ++ b) = FR q a ++ FR q b := by unfold FR; rw [List.flatMap_append]
theorem FR_congr {q q' : Int → Nat} : ∀ {r : List Int}, (∀ x ∈ r, q x = q' x) → FR q r = FR q' r
  | [], _ => rfl
  | g :: r, h => by rw [FR_cons, FR_cons, h g (by simp), FR_congr fun x hx => h x (by simp [hx])]
theorem FR_mem {q : Int → Nat} {x : Int} : ∀ {r : List Int}, x ∈ FR q r ↔ x ∈ r ∧ 0 < q x
  | [] => by simp [FR]
  | g :: r => by
    rw [FR_cons, List.mem_append, FR_mem, List.mem_replicate, List.mem_cons]
    constructor
    · rintro (⟨h1, rfl⟩ | ⟨h1, h2⟩)
      · exact ⟨.inl rfl, by omega⟩
      · exact ⟨.inr h1, h2⟩
    · rintro ⟨rfl | h1, h2⟩
      · exact .inl ⟨by omega, rfl⟩
      · exact .inr ⟨h1, h2⟩
theorem FR_zero {q : Int → Nat} {r : List Int} (h : ∀ x ∈ r, q x = 0) : FR q r = [] := by
  cases e : FR q r with
  | nil => rfl
  | cons x l =>
    have : x ∈ FR q r := by rw [e]; simp
    have := FR_mem.mp this
    have := h x this.1
    omega
theorem FR_count {q : Int → Nat} {x : Int} : ∀ {r : List Int}, r.Nodup → (FR q r).count x = if x ∈ r then q x else 0
  | [], _ => by simp [FR]
  | g :: r, h => by
    obtain ⟨h1, h2⟩ := List.nodup_cons.mp h
    rw [FR_cons, List.count_append, FR_count h2, List.count_replicate]
    by_cases e : x = g
    · subst e
      simp [h1]
    · have e' : ¬ g = x := fun z => e z.symm
      simp [e, e']
/-- what lies over what is taken is taken -/
theorem FR_split2 {a b : Int → Nat} : ∀ {r : List Int}, (∀ (r1 r2 : List Int) (g : Int), r = r1 ++ g :: r2 → 0 < b g → ∀ o ∈ r2, a o = 0) → FR (fun g => a g + b g) r = FR a r ++ FR b r
  | [], _ => rfl
  | g :: r, h => by
    rw [FR_cons, FR_cons, FR_cons, FR_split2 fun r1 r2 g' e hg => h (g :: r1) r2 g' (by rw [e]; rfl) hg, ← List.replicate_append_replicate]
    by_cases hb : 0 < b g
    · have : FR a r = [] := FR_zero fun o ho => h [] r g rfl hb o ho
      rw [this]
      simp only [List.nil_append, List.append_nil, List.append_assoc]
    · have : b g = 0 := by omega
      rw [this]
      simp
/-- a pile laid in the row's order, taken from the top -/
theorem FR_cut : ∀ {r : List Int} {q : Int → Nat} {W T : List Int}, r.Nodup → FR q r = W ++ T → ∃ q' : Int → Nat, W = FR q' r ∧ ∀ (r1 r2 : List Int) (g : Int), r = r1 ++ g :: r2 → g ∈ T → ∀ o ∈ r2, q' o = 0
  | [], q, W, T, _, e => by
    rw [FR_nil] at e
    obtain ⟨rfl, rfl⟩ := List.append_eq_nil_iff.mp e.symm
    exact ⟨fun _ => 0, rfl, fun r1 r2 g h _ => by simp at h⟩
  | g :: r, q, W, T, nd, e => by
    obtain ⟨n1, n2⟩ := List.nodup_cons.mp nd
    rw [FR_cons] at e
    rcases Nat.lt_or_ge W.length (q g) with hl | hl
    · -- inside the first block
      have hW : W = List.replicate W.length g := by
        have h1 : W = (W ++ T).take W.length := by simp
        rw [← e, List.take_append_of_le_length (by rw [List.length_replicate]; omega), List.take_replicate, Nat.min_eq_left (by omega)] at h1
        exact h1
      refine ⟨fun x => if x = g then W.length else 0, ?_, ?_⟩
      · rw [FR_cons, FR_zero fun x hx => by
          have : x ≠ g := fun z => n1 (z ▸ hx)
          simp [this]]
        simpa using hW
      · intro r1 r2 x h hx o ho
        have : o ∈ r := by
          cases r1 with
          | nil => injection h with h1 h2; rw [h2]; exact ho
          | cons y r1 => injection h with h1 h2; rw [h2]; simp [ho]
        have : o ≠ g := fun z => n1 (z ▸ this)
        simp [this]
    · -- behind it
      have e2 : FR q r = W.drop (q g) ++ T := by
        have h1 := congrArg (List.drop (q g)) e
        rw [List.drop_append_of_le_length (by simp), List.drop_replicate, Nat.sub_self, List.drop_append_of_le_length hl] at h1
        simpa using h1
      have e3 : W = List.replicate (q g) g ++ W.drop (q g) := by
        have h1 := congrArg (List.take (q g)) e
        rw [List.take_append_of_le_length (by simp), List.take_replicate, Nat.min_self, List.take_append_of_le_length hl] at h1
        conv => lhs; rw [← List.take_append_drop (q g) W]
        rw [← h1]
      obtain ⟨q', a1, a2⟩ := FR_cut n2 e2
      have gT : g ∉ T := fun z => by
        have : g ∈ FR q r := by rw [e2]; simp [z]
        exact n1 (FR_mem.mp this).1
      refine ⟨fun x => if x = g then q g else q' x, ?_, ?_⟩
      · rw [FR_cons, FR_congr (q' := q') fun x hx => by
          have : x ≠ g := fun z => n1 (z ▸ hx)
          simp [this]]
        conv => lhs; rw [e3, a1]
        simp
      · intro r1 r2 x h hx o ho
        cases r1 with
        | nil =>
          injection h with h1 h2
          subst h1
          exact absurd hx gT
        | cons y r1 =>
          injection h with h1 h2
          have := a2 r1 r2 x h2 hx o ho
          have og : o ≠ g := fun z => n1 (by rw [← z, h2]; simp [ho])
          simp [og, this]
/-- whether a step may come behind a row -/
structure MayCome (w : Web) (row : List Int) (s : Int) : Prop where
  there : ∀ g ∈ inp w s, g ∈ row
  over : ∀ (r1 r2 : List Int) (g : Int), row = r1 ++ g :: r2 → g ∈ inp w s → ∀ o ∈ r2, ∀ t ∈ rangeI w.length, o ∈ inp w t → t = s ∨ t ∈ row
def RightF (w : Web) : List Int → List Int → Prop
  | _, [] => True
  | row, s :: r => MayCome w row s ∧ RightF w (row ++ [s]) r
/-- a run with any copies -/
def RunF (w : Web) : List Int → List Int → Prop
  | [], _ => True
  | s :: r, W => ∃ (W' T : List Int) (m : Nat), W = W' ++ T ∧ T.Perm (inp w s) ∧ RunF w r (W' ++ List.replicate m s)
/-- a run with the right copies, nothing left -/
def PlainF (w : Web) : List Int → List Int → Prop
  | [], W => W = []
  | s :: r, W => ∃ (W' T : List Int), W = W' ++ T ∧ T.Perm (inp w s) ∧ PlainF w r (W' ++ List.replicate (needN w [] s) s)
theorem plain_run {w : Web} : ∀ {r W : List Int}, PlainF w r W → RunF w r W
  | [], _, _ => trivial
  | s :: r, W, ⟨W', T, h1, h2, h3⟩ => ⟨W', T, _, h1, h2, plain_run h3⟩
theorem run_gone {w : Web} {o : Int} : ∀ {r W : List Int}, RunF w r W → o ∉ W → o ∉ r → ∀ t ∈ r, o ∉ inp w t
  | [], _, _, _, _, t, ht => by cases ht
  | s :: r, W, ⟨W', T, m, h1, h2, h3⟩, hW, hr, t, ht => by
    subst h1
    rcases List.mem_cons.mp ht with rfl | ht
    · exact fun z => hW (List.mem_append_right _ (h2.mem_iff.mpr z))
    · refine run_gone h3 (fun z => ?_) (fun z => hr (List.mem_cons_of_mem _ z)) t ht
      rcases List.mem_append.mp z with z | z
      · exact hW (List.mem_append_left _ z)
      · exact hr (by rw [List.eq_of_mem_replicate z]; simp)
/-- a run goes in a right order -/
theorem run_right {w : Web} : ∀ {r row : List Int} {q : Int → Nat}, RunF w r (FR q row) → (row ++ r).Nodup → (∀ t ∈ rangeI w.length, t ∈ row ++ r) → RightF w row r
  | [], _, _, _, _, _ => trivial
  | s :: r, row, q, ⟨W', T, m, h1, h2, h3⟩, nd, cov => by
    have ndr := (List.nodup_append.mp nd).1
    obtain ⟨n1, n2, n3⟩ := List.nodup_append.mp nd
    obtain ⟨q', a1, a2⟩ := FR_cut ndr h1
    have sr : s ∉ row := fun z => n3 s z s (by simp) rfl
    have e2 : W' ++ List.replicate m s = FR (fun x => if x = s then m else q' x) (row ++ [s]) := by
      rw [FR_app, FR_cons, FR_nil, List.append_nil, FR_congr (q' := q') fun x hx => by
        have : x ≠ s := fun z => sr (z ▸ hx)
        simp [this], ← a1]
      simp
    have nd2 : (row ++ [s] ++ r).Nodup := by simpa using nd
    refine ⟨⟨fun g hg => ?_, fun r1 r2 g e hg o ho t ht hot => ?_⟩, run_right (q := fun x => if x = s then m else q' x) (e2 ▸ h3) nd2 (fun t ht => by simpa using cov t ht)⟩
    · have : g ∈ FR q row := by rw [h1]; exact List.mem_append_right _ (h2.mem_iff.mpr hg)
      exact (FR_mem.mp this).1
    · have z0 := a2 r1 r2 g e (h2.mem_iff.mpr hg) o ho
      have oW : o ∉ W' := fun z => by
        rw [a1] at z
        have := (FR_mem.mp z).2
        omega
      have orow : o ∈ row := by rw [e]; simp [ho]
      have os : o ≠ s := fun z => sr (z ▸ orow)
      rcases List.mem_append.mp (cov t ht) with h | h
      · exact .inr h
      · rcases List.mem_cons.mp h with h | h
        · exact .inl h
        · refine absurd hot (run_gone h3 (fun z => ?_) (fun z => n3 o orow o (by simp [z]) rfl) t h)
          rcases List.mem_append.mp z with z | z
          · exact oW z
          · exact os (List.eq_of_mem_replicate z)
theorem sum_zero : ∀ {l : List Nat}, (∀ x ∈ l, x = 0) → l.sum = 0
  | [], _ => rfl
  | x :: l, h => by rw [List.sum_cons, h x (by simp), sum_zero fun y hy => h y (by simp [hy])]
theorem sum_filter_ne {f : Int → Nat} {s : Int} : ∀ {l : List Int}, l.Nodup → s ∈ l → (l.map f).sum = f s + ((l.filter fun t => !decide (t = s)).map f).sum
  | [], _, h => by cases h
  | x :: l, nd, h => by
    obtain ⟨n1, n2⟩ := List.nodup_cons.mp nd
    rw [List.map_cons, List.sum_cons, List.filter_cons]
    by_cases e : x = s
    · subst e
      have : (l.filter fun t => !decide (t = x)) = l := List.filter_eq_self.mpr fun t ht => by
        have : t ≠ x := fun z => n1 (z ▸ ht)
        simp [this]
      simp [this]
    · have hs : s ∈ l := by
        rcases List.mem_cons.mp h with h | h
        · exact absurd h.symm e
        · exact h
      have ih := sum_filter_ne (f := f) n2 hs
      simp only [e, decide_false, Bool.not_false, if_true, List.map_cons, List.sum_cons]
      omega
theorem need_step {w : Web} {row : List Int} {s g : Int} (hs : s ∈ rangeI w.length) (hn : s ∉ row) : needN w row g = needN w (row ++ [s]) g + (inp w s).count g := by
  unfold needN
  have nd : ((rangeI w.length).filter fun t => !decide (t ∈ row)).Nodup := rangeI_nd.filter _
  rw [sum_filter_ne (s := s) nd (List.mem_filter.mpr ⟨hs, by simpa using hn⟩), List.filter_filter]
  have : (rangeI w.length).filter (fun a => (!decide (a = s)) && !decide (a ∈ row)) = (rangeI w.length).filter fun t => !decide (t ∈ row ++ [s]) := List.filter_congr fun t _ => by
    by_cases a : t = s <;> by_cases b : t ∈ row <;> simp [a, b]
  rw [this]
  omega
/-- a right order may be run plainly -/
theorem right_plain {w : Web} : ∀ {r row : List Int}, RightF w row r → (row ++ r).Nodup → (∀ t ∈ row ++ r, t ∈ rangeI w.length) → (∀ t ∈ rangeI w.length, t ∈ row ++ r) → (∀ t ∈ row, ∀ g ∈ inp w t, g ∈ row) → PlainF w r (FR (needN w row) row)
  | [], row, _, nd, _, cov, _ => by
    show FR _ _ = []
    refine FR_zero fun x _ => ?_
    unfold needN
    have : ((rangeI w.length).filter fun t => !decide (t ∈ row)) = [] := List.filter_eq_nil_iff.mpr fun t ht => by
      have := cov t ht
      simpa using this
    rw [this]; rfl
  | s :: r, row, ⟨mc, h⟩, nd, sub, cov, cl => by
    obtain ⟨n1, n2, n3⟩ := List.nodup_append.mp nd
    have sr : s ∉ row := fun z => n3 s z s (by simp) rfl
    have hs : s ∈ rangeI w.length := sub s (by simp)
    have nd2 : (row ++ [s] ++ r).Nodup := by simpa using nd
    have cl2 : ∀ t ∈ row ++ [s], ∀ g ∈ inp w t, g ∈ row ++ [s] := fun t ht g hg => by
      rcases List.mem_append.mp ht with ht | ht
      · exact List.mem_append_left _ (cl t ht g hg)
      · have : t = s := by simpa using ht
        exact List.mem_append_left _ (mc.there g (this ▸ hg))
    have ih := right_plain h nd2 (fun t ht => sub t (by simpa using ht)) (fun t ht => by simpa using cov t ht) cl2
    have e1 : FR (needN w row) row = FR (needN w (row ++ [s])) row ++ FR (fun g => (inp w s).count g) row := by
      rw [FR_congr (q' := fun g => needN w (row ++ [s]) g + (inp w s).count g) fun x _ => need_step hs sr]
      refine FR_split2 fun r1 r2 g e hg o ho => ?_
      have hg' : g ∈ inp w s := List.count_pos_iff.mp hg
      unfold needN
      refine sum_zero fun x hx => ?_
      obtain ⟨t, ht, rfl⟩ := List.mem_map.mp hx
      obtain ⟨ht, hn⟩ := List.mem_filter.mp ht
      refine List.count_eq_zero.mpr fun z => ?_
      have hn : t ∉ row ++ [s] := by simpa using hn
      rcases mc.over r1 r2 g e hg' o ho t ht z with rfl | q
      · exact hn (by simp)
      · exact hn (by simp [q])
    have e2 : (FR (fun g => (inp w s).count g) row).Perm (inp w s) := by
      refine List.perm_iff_count.mpr fun x => ?_
      rw [FR_count n1]
      split
      · rfl
      · rename_i q
        exact (List.count_eq_zero.mpr fun z => q (mc.there x z)).symm
    refine ⟨_, _, e1, e2, ?_⟩
    have e3 : FR (needN w (row ++ [s])) row ++ List.replicate (needN w [] s) s = FR (needN w (row ++ [s])) (row ++ [s]) := by
      rw [FR_app, FR_cons, FR_nil, List.append_nil]
      congr 2
      -- nobody of the row takes from s
      unfold needN
      have f : ∀ (l : List Int), (∀ t ∈ l, t ∈ row ++ [s] → (inp w t).count s = 0) → (l.map fun t => (inp w t).count s).sum = ((l.filter fun t => !decide (t ∈ row ++ [s])).map fun t => (inp w t).count s).sum := by
        intro l
        induction l with
        | nil => intro _; rfl
        | cons x l ih =>
          intro h
          have ih := ih fun t ht => h t (by simp [ht])
          rw [List.filter_cons]
          by_cases q : x ∈ row ++ [s]
          · rw [List.map_cons, List.sum_cons, h x (by simp) q, ih]
            simp only [q, decide_true, Bool.not_true]
            simp
          · simp only [q, decide_false, Bool.not_false, if_true, List.map_cons, List.sum_cons]
            rw [ih]
      have := f (rangeI w.length) fun t _ ht => List.count_eq_zero.mpr fun z => by
        rcases List.mem_append.mp ht with ht | ht
        · exact sr (cl t ht s z)
        · have : t = s := by simpa using ht
          exact sr (mc.there s (this ▸ z))
      have e0 : (rangeI w.length).filter (fun t => !decide (t ∈ ([] : List Int))) = rangeI w.length := List.filter_eq_self.mpr fun t _ => by simp
      rw [e0]
      exact this
    rw [e3]
    exact ih
theorem inp_len {n : Nat} {w : Web} {s : Int} (hw : WebOk n w) (h : s ∈ rangeI w.length) : (inp w s).length ≤ 3 ∧ ∀ i ∈ inp w s, i ∈ rangeI w.length := by
  have hr := rangeI_mem.mp h
  have hk : s.toNat < w.length := by omega
  have e : inp w s = w[s.toNat].2 := by unfold inp; simp [hk]
  have ok := hw.2.1 _ (List.getElem_mem hk)
  rw [e]
  exact ⟨ok.2.1, fun i hi => rangeI_mem.mpr (by have := ok.2.2 i hi; omega)⟩

end Law

set_option Elab.async false
set_option linter.all false
set_option maxRecDepth 100000
set_option maxHeartbeats 2000000
namespace Law
open PySem PySem.Spec PyProof.Rows L2 Md
/-! ### the law's right orders -/
abbrev tkL (w : Web) (us : List T3) : D := .lst ((List.range w.length).map fun k => D.lst ((tkI us k).map D.int))
def mayB (w : Web) (us : List T3) (row : List Int) (s : Int) : Bool :=
  (inp w s).all (fun g => decide (g ∈ row)) && (inp w s).all fun g => (row.drop (row.idxOf g + 1)).all fun o => (tkI us o.toNat).all fun t => decide (t = s) || decide (t ∈ row)
theorem tk_mem {w : Web} {us : List T3} (hu : us.Perm (tiesT w)) {k : Nat} {t : Int} : t ∈ tkI us k ↔ t ∈ rangeI w.length ∧ (k : Int) ∈ inp w t := by
  unfold tkI
  constructor
  · intro h
    obtain ⟨u, hu1, rfl⟩ := List.mem_map.mp h
    obtain ⟨hu1, hu2⟩ := List.mem_filter.mp hu1
    obtain ⟨j, i, e1, e2, hj, e3⟩ := tie_at (hu.subset hu1)
    have hu2 := of_decide_eq_true hu2
    refine ⟨rangeI_mem.mpr (by omega), ?_⟩
    rw [e1, ← hu2]
    unfold inp
    have := List.mem_of_getElem? e3
    simpa [hj] using this
  · rintro ⟨h1, h2⟩
    have hr := rangeI_mem.mp h1
    have hk : t.toNat < w.length := by omega
    have e : inp w t = w[t.toNat].2 := by unfold inp; simp [hk]
    rw [e] at h2
    obtain ⟨i, hi, e3⟩ := mem_get h2
    refine List.mem_map.mpr ⟨((k : Int), t, (i : Int)), List.mem_filter.mpr ⟨hu.symm.subset ?_, decide_eq_true rfl⟩, rfl⟩
    unfold tiesT
    refine List.mem_flatMap.mpr ⟨(w[t.toNat], t.toNat), List.mem_zipIdx_iff_getElem?.mpr (by simp [hk]), ?_⟩
    unfold rowT
    refine List.mem_map.mpr ⟨((k : Int), i), List.mem_zipIdx_iff_getElem?.mpr (by simpa using e3), ?_⟩
    show ((k : Int), ((t.toNat : Nat) : Int), (i : Int)) = _
    rw [show ((t.toNat : Nat) : Int) = t by omega]
theorem idx_app {g : Int} {r2 : List Int} : ∀ {r1 : List Int}, g ∉ r1 → (r1 ++ g :: r2).idxOf g = r1.length
  | [], _ => by simp
  | x :: r1, h => by
    have e : (x == g) = false := by simp; rintro rfl; exact h (by simp)
    rw [List.cons_append, List.idxOf_cons, e, idx_app fun z => h (List.mem_cons_of_mem _ z)]
    rfl
theorem idx_split {row : List Int} (nd : row.Nodup) {r1 r2 : List Int} {g : Int} (e : row = r1 ++ g :: r2) : row.idxOf g = r1.length ∧ row.drop (row.idxOf g + 1) = r2 := by
  have gn : g ∉ r1 := fun z => by
    rw [e] at nd
    exact (List.nodup_append.mp nd).2.2 g z g (by simp) rfl
  have h : row.idxOf g = r1.length := by
    rw [e, idx_app gn]
  refine ⟨h, ?_⟩
  rw [h, e]
  simp
theorem may_iff {w : Web} {us : List T3} {row : List Int} {s : Int} (hu : us.Perm (tiesT w)) (nd : row.Nodup) (h0 : ∀ o ∈ row, 0 ≤ o) : mayB w us row s = true ↔ MayCome w row s := by
  unfold mayB
  rw [Bool.and_eq_true, List.all_eq_true, List.all_eq_true]
  constructor
  · rintro ⟨h1, h2⟩
    refine ⟨fun g hg => of_decide_eq_true (h1 g hg), fun r1 r2 g e hg o ho t ht hot => ?_⟩
    have h3 := List.all_eq_true.mp (h2 g hg) o (by rw [(idx_split nd e).2]; exact ho)
    have oz := h0 o (by rw [e]; simp [ho])
    have h4 := List.all_eq_true.mp h3 t ((tk_mem hu).mpr ⟨ht, by rw [show ((o.toNat : Nat) : Int) = o by omega]; exact hot⟩)
    rw [Bool.or_eq_true, decide_eq_true_eq, decide_eq_true_eq] at h4
    exact h4
  · intro mc
    refine ⟨fun g hg => decide_eq_true (mc.there g hg), fun g hg => List.all_eq_true.mpr fun o ho => List.all_eq_true.mpr fun t ht => ?_⟩
    obtain ⟨r1, r2, e⟩ := List.append_of_mem (mc.there g hg)
    rw [(idx_split nd e).2] at ho
    have oz := h0 o (by rw [e]; simp [ho])
    obtain ⟨a, b⟩ := (tk_mem hu).mp ht
    rw [show ((o.toNat : Nat) : Int) = o by omega] at b
    have := mc.over r1 r2 g e hg o ho t a b
    rw [Bool.or_eq_true, decide_eq_true_eq, decide_eq_true_eq]
    exact this
theorem ones_nil {α : Type} {xs : List α} {S : Sto} : eqD S (.lst (xs.map fun _ => D.int 1)) (.lst []) = some xs.isEmpty := by
  rw [eqD_nilL (okL_map fun _ _ => rfl) (nbL_map fun _ _ => rfl) (Nat.le_trans (depL_map (n := 0) fun _ _ => Nat.le_refl _) (by decide)), List.isEmpty_map]
theorem filt_all {p : Int → Bool} : ∀ l : List Int, (l.filter fun s => !p s).isEmpty = l.all p
  | [] => rfl
  | x :: l => by
    rw [List.filter_cons, List.all_cons]
    cases p x
    · rfl
    · simpa using filt_all l
theorem bad_lc {S : Sto} {i : Nat} {lw : Md.Loc} {mt : BD} (p : Int → Bool) (ns : List Int) (hz : ns.length ≤ 1000) (h : ∀ s ∈ ns, mt (lw.set i (some (.int s))) S = .ok (!p s) S) :
    ∃ B, lcGo (cellOk ⟨[], ns.map D.int⟩) (mgName i) mt (mC (.int 1)) lw (ns.map D.int) [] S = .ok B S ∧ ∀ S, eqD S (.lst B) (.lst []) = some (ns.all p) := by
  obtain ⟨f, hf⟩ : ∃ f : D → Bool, ∀ s, f (.int s) = !p s := ⟨fun d => match d with | .int s => !p s | _ => false, fun _ => rfl⟩
  have := lc_pure (ok := cellOk ⟨[], ns.map D.int⟩) (mg := mgName i) (mt := mt) (me := mC (.int 1)) (lw := lw) (S := S) rfl f (fun _ => .int 1) (ns.map D.int) [] (by simp; omega) fun d hd => by
    obtain ⟨s, hs, rfl⟩ := List.mem_map.mp hd
    exact ⟨_, rfl, by rw [hf]; exact h s hs, fun _ => rfl⟩
  refine ⟨_, this, fun S => ?_⟩
  rw [List.nil_append, ones_nil]
  congr 1
  rw [List.filter_map, List.isEmpty_map, show (f ∘ D.int) = fun s => !p s from funext hf]
  exact filt_all ns
abbrev ML (w : Web) (us : List T3) (row : List Int) (s : Int) (t5 t6 t7 t8 t9 : Option D) : Md.Loc := [some (encW w), some (tkL w us), some (.tup (row.map D.int)), some (.int s), some (.bl false), t5, t6, t7, t8, t9]
noncomputable abbrev mcInn : SD := (sCons (sIf (mB (mOp fNe (mLcF finL (mSeq (mOp fIx (mVar 1) (mVar 8))) (mgName 9) (mAnd (mB (mOp fNe (mVar 9) (mVar 3))) (mB (mOp fNotIn (mVar 9) (mVar 2)))) (mC (.int 1)) [9]) (mLst (mNil))))
    (sCons (sRet (mC (.bl false)))
    (sNil))
    (sNil))
    (sNil))
noncomputable abbrev mcBody : SD := (sCons (sSet 6 (mMet "tuple" fIndexT (mVar 2) (mCons (mVar 5) (mNil))))
    (sCons (sSet 7 (mIf (mTru (mVar 4)) (mSl (mVar 2) (mPart none) (mPart (some (mVar 6)))) (mSl (mVar 2) (mPart (some (mOp fAdd (mVar 6) (mC (.int 1))))) (mPart none))))
    (sCons (sFor (mSeq (mVar 7)) (mgName 8) mcInn)
    (sNil))))
theorem in_tup {S : Sto} {i : Int} {ns : List Int} : inD S (.int i) (.tup (ns.map D.int)) = some (decide (i ∈ ns)) := by
  show inSeqD S (.int i) (ns.map D.int) = _
  exact inD_ints
def fI (f : Int → Option D) : D → Option D
  | .int x => f x
  | _ => none
theorem findSome_all {f : Int → Option D} {p : Int → Bool} (h : ∀ x, f x = if p x then none else some (.bl false)) : ∀ xs : List Int, (xs.map D.int).findSome? (fI f) = if xs.all p then none else some (.bl false)
  | [] => rfl
  | x :: xs => by
    rw [List.map_cons, List.findSome?_cons, List.all_cons, show fI f (.int x) = f x from rfl, h]
    cases p x with
    | true => exact (findSome_all h xs).trans (by simp)
    | false => simp
def overB (us : List T3) (row : List Int) (s o : Int) : Bool := (tkI us o.toNat).all fun t => decide (t = s) || decide (t ∈ row)
theorem mc_inn {w : Web} {us : List T3} {row xs : List Int} {s : Int} {S : Sto} {t5 t6 t7 : Option D} (hz : us.length ≤ 1000) (hx : ∀ o ∈ xs, o ∈ rangeI w.length) : ∀ t8 t9, ((if xs.all (overB us row s) then none else some (D.bl false)) = none ∧ ∃ u8 u9, forGo (cellOk ⟨[], xs.map D.int⟩) (mgName 8) mcInn (xs.map D.int) (ML w us row s t5 t6 t7 t8 t9) S = .nx (ML w us row s t5 t6 t7 u8 u9) S) ∨
    ∃ r, (if xs.all (overB us row s) then none else some (D.bl false)) = some r ∧ forGo (cellOk ⟨[], xs.map D.int⟩) (mgName 8) mcInn (xs.map D.int) (ML w us row s t5 t6 t7 t8 t9) S = .rt r S := fun t8 t9 => by
  have := for_first (ok := cellOk ⟨[], xs.map D.int⟩) (mg := mgName 8) (ms := mcInn) (S := S) rfl (I := fun l => ∃ u8 u9, l = ML w us row s t5 t6 t7 u8 u9) (fI fun x => if overB us row s x then none else some (D.bl false)) (xs.map D.int) (fun d hd l hl => by
    obtain ⟨o, ho, rfl⟩ := List.mem_map.mp hd
    obtain ⟨u8, u9, rfl⟩ := hl
    have hr := rangeI_mem.mp (hx o ho)
    refine ⟨ML w us row s t5 t6 t7 (some (.int o)) u9, rfl, ?_⟩
    have e1 : ∀ S, ixD S (tkL w us) (.int o) = some (.lst ((tkI us o.toNat).map D.int)) := fun S => by
      obtain ⟨k, rfl⟩ : ∃ k : Nat, o = (k : Int) := ⟨o.toNat, by omega⟩
      show atI ((List.range w.length).map fun k => D.lst ((tkI us k).map D.int)) (k : Int) = _
      rw [atI_nat', List.getElem?_map, List.getElem?_eq_getElem (by simp; omega)]
      simp
    have lt : (tkI us o.toNat).length ≤ 1000 := by
      unfold tkI
      rw [List.length_map]
      exact Nat.le_trans (List.filter_sublist.length_le) hz
    obtain ⟨B, l1, eb⟩ := bad_lc (S := S) (i := 9) (lw := [some (encW w), some (tkL w us), some (.tup (row.map D.int)), some (.int s), some (.bl false), t5, t6, t7, some (.int o), none]) (mt := mAnd (mB (mOp fNe (mVar 9) (mVar 3))) (mB (mOp fNotIn (mVar 9) (mVar 2)))) (fun t => decide (t = s) || decide (t ∈ row)) (tkI us o.toNat) lt (fun t _ => by
      have i1 := in_tup (S := S) (i := t) (ns := row)
      have i2 : eqD S (.int t) (.int s) = some (decide (t = s)) := eqD_int
      try dsimp only [ML] at *
      generalize row.map D.int = R at *
      generalize tkL w us = TK at *
      generalize encW w = W at *
      cases a : decide (t = s) with
      | true => rw [a] at i2; simp [-eqD_int, i2]
      | false => rw [a] at i2; simp [-eqD_int, i2, i1])
    have ov : overB us row s o = (tkI us o.toNat).all fun t => decide (t = s) || decide (t ∈ row) := rfl
    rw [← ov] at eb
    show (((if overB us row s o then none else some (D.bl false)) = none ∧ _) ∨ ∃ r, (if overB us row s o then none else some (D.bl false)) = some r ∧ _)
    have q1 : ∀ (L : List D) S, seqOf S (.lst L) = some L := fun _ _ => rfl
    have q2 : ∀ (L : List D) S, cellsOf S (.lst L) = [] := fun _ _ => rfl
    try dsimp only [ML] at *
    generalize (tkI us o.toNat).map D.int = TI at *
    cases c : overB us row s o with
    | true =>
      rw [c] at eb
      left
      refine ⟨rfl, ML w us row s t5 t6 t7 (some (.int o)) u9, ?_, _, _, rfl⟩
      try dsimp only [ML] at *
      generalize row.map D.int = R at *
      generalize tkL w us = TK at *
      generalize encW w = W at *
      simp [e1, q1, q2, wipeL, l1, eb]
    | false =>
      rw [c] at eb
      right
      refine ⟨.bl false, rfl, ?_⟩
      try dsimp only [ML] at *
      generalize row.map D.int = R at *
      generalize tkL w us = TK at *
      generalize encW w = W at *
      simp [e1, q1, q2, wipeL, l1, eb]) (ML w us row s t5 t6 t7 t8 t9) ⟨t8, t9, rfl⟩
  rw [findSome_all (p := overB us row s) fun x => rfl] at this
  rcases this with ⟨h1, l2, h2, u8, u9, rfl⟩ | ⟨r, h1, h2⟩
  · exact .inl ⟨h1, u8, u9, h2⟩
  · exact .inr ⟨r, h1, h2⟩

end Law

set_option Elab.async false
set_option linter.all false
set_option maxRecDepth 100000
set_option maxHeartbeats 2000000
namespace Law
open PySem PySem.Spec PyProof.Rows L2 Md
/-! ### counting dicts -/
abbrev KV := List (Int × Int)
def encK (kv : Int × Int) : D × D := (.int kv.1, .int kv.2)
def lkI : KV → Int → Option Int
  | [], _ => none
  | (a, c) :: r, k => if a = k then some c else lkI r k
def setI (v : Int) (k : Int) (kv : KV) : KV := kv.map fun p => if p.1 = k then (p.1, v) else p
def incK (kv : KV) (k : Int) : KV := match lkI kv k with
  | some c => setI (c + 1) k kv
  | none => kv ++ [(k, 1)]
theorem lkD_enc {k : Int} : ∀ kv : KV, lkD (kv.map encK) (.int k) = (lkI kv k).map D.int
  | [] => rfl
  | (a, c) :: r => by
    have ih := lkD_enc (k := k) r
    unfold lkD at ih ⊢
    rw [List.map_cons, List.find?_cons, lkI]
    by_cases e : a = k
    · rw [show decide ((encK (a, c)).1 = D.int k) = true by simp [encK, e], if_pos e]; rfl
    · rw [show decide ((encK (a, c)).1 = D.int k) = false by simp [encK, e], if_neg e]; exact ih
theorem any_enc {k : Int} : ∀ kv : KV, ((kv.map encK).any fun p => decide (p.1 = D.int k)) = (lkI kv k).isSome
  | [] => rfl
  | (a, c) :: r => by
    rw [List.map_cons, List.any_cons, lkI, any_enc r]
    by_cases e : a = k
    · simp [encK, e]
    · simp [encK, e]
theorem putD_enc {kv : KV} {k : Int} : putD (kv.map encK) (.int k) (.int ((lkI kv k).getD 0 + 1)) = (incK kv k).map encK := by
  unfold putD incK
  rw [any_enc]
  cases lkI kv k with
  | none => simp [encK]
  | some c =>
    simp only [Option.isSome_some, if_true, setI, List.map_map]
    apply List.map_congr_left
    intro p _
    by_cases e : p.1 = k <;> simp [encK, e]
theorem dropD_enc {kv : KV} {k : Int} : dropD (kv.map encK) (.int k) = (kv.filter fun p => decide (p.1 ≠ k)).map encK := by
  unfold dropD
  rw [List.filter_map]
  congr 1
  apply List.filter_congr
  intro p _
  simp [encK]
theorem lk_set {v k k' : Int} : ∀ kv : KV, lkI (setI v k kv) k' = if k' = k then (lkI kv k).map (fun _ => v) else lkI kv k'
  | [] => by simp [setI, lkI]
  | (a, c) :: r => by
    have ih := lk_set (v := v) (k := k) (k' := k') r
    unfold setI at ih ⊢
    rw [List.map_cons]
    by_cases e : a = k
    · subst e
      by_cases e2 : k' = a
      · subst e2; simp [lkI]
      · have : ¬ a = k' := fun z => e2 z.symm
        simp only [if_true, lkI, this, if_false, ih, e2]
    · by_cases e2 : k' = k
      · subst e2; simp only [e, if_false, lkI, ih, if_true]
      · by_cases e3 : a = k'
        · subst e3; simp [lkI, e]
        · simp only [e, if_false, lkI, e3, ih, e2]
theorem lk_app {k k' c : Int} : ∀ kv : KV, lkI kv k = none → lkI (kv ++ [(k, c)]) k' = if k' = k then some c else lkI kv k'
  | [], _ => by
    by_cases e : k' = k
    · simp [lkI, e]
    · have : ¬ k = k' := fun z => e z.symm
      simp [lkI, e, this]
  | (a, c') :: r, h => by
    rw [lkI] at h
    by_cases e : a = k
    · rw [if_pos e] at h; cases h
    · rw [if_neg e] at h
      rw [List.cons_append, lkI, lkI, lk_app r h]
      by_cases e2 : k' = k
      · subst e2; simp [e]
      · simp [e2]
theorem lk_inc {kv : KV} {k k' : Int} : lkI (incK kv k) k' = if k' = k then some ((lkI kv k).getD 0 + 1) else lkI kv k' := by
  unfold incK
  cases e : lkI kv k with
  | none => simp [lk_app kv e]
  | some c => simp [lk_set, e]
theorem lk_none {k : Int} : ∀ {kv : KV}, lkI kv k = none ↔ ∀ p ∈ kv, p.1 ≠ k
  | [] => by simp [lkI]
  | (a, c) :: r => by
    rw [lkI]
    by_cases e : a = k
    · simp [e]
    · simp [e, lk_none (kv := r)]
def ndK (kv : KV) : Prop := (kv.map (·.1)).Nodup
theorem nd_inc {kv : KV} {k : Int} (h : ndK kv) : ndK (incK kv k) := by
  unfold incK
  cases e : lkI kv k with
  | none =>
    unfold ndK at h ⊢
    simp only
    rw [List.map_append, List.nodup_append]
    refine ⟨h, by simp, fun a ha b hb z => ?_⟩
    simp at hb
    subst hb z
    obtain ⟨p, hp, rfl⟩ := List.mem_map.mp ha
    exact lk_none.mp e p hp rfl
  | some c =>
    unfold ndK setI at *
    simp only
    rw [List.map_map, show ((fun x : Int × Int => x.1) ∘ fun p : Int × Int => if p.1 = k then (p.1, c + 1) else p) = (·.1) from funext fun p => by
      by_cases z : p.1 = k <;> simp [z]]
    exact h
def sumK (p : Int → Bool) (kv : KV) : Int := ((kv.filter fun q => p q.1).map (·.2)).sum
theorem sum_cons {p : Int → Bool} {a c : Int} {r : KV} : sumK p ((a, c) :: r) = (if p a then c else 0) + sumK p r := by
  unfold sumK
  rw [List.filter_cons]
  cases p a <;> simp
theorem sum_set {p : Int → Bool} {k c : Int} : ∀ {kv : KV}, ndK kv → lkI kv k = some c → sumK p (setI (c + 1) k kv) = sumK p kv + if p k then 1 else 0
  | [], _, h => by simp [lkI] at h
  | (a, c') :: r, nd, h => by
    have nd' := List.nodup_cons.mp (show (a :: r.map (·.1)).Nodup from nd)
    rw [lkI] at h
    unfold setI
    rw [List.map_cons]
    by_cases e : a = k
    · subst e
      rw [if_pos rfl] at h
      cases h
      have : (r.map fun q : Int × Int => if q.1 = a then (q.1, c + 1) else q) = r := by
        conv => rhs; rw [← List.map_id r]
        apply List.map_congr_left
        intro q hq
        have : q.1 ≠ a := fun z => nd'.1 (List.mem_map.mpr ⟨q, hq, z⟩)
        simp [this]
      rw [if_pos rfl, this, sum_cons, sum_cons]
      cases p a <;> simp <;> omega
    · rw [if_neg e] at h
      rw [if_neg e, sum_cons, sum_cons]
      have := sum_set (p := p) nd'.2 h
      unfold setI at this
      rw [this]; omega
theorem sum_inc {p : Int → Bool} {k : Int} {kv : KV} (nd : ndK kv) : sumK p (incK kv k) = sumK p kv + if p k then 1 else 0 := by
  unfold incK
  cases e : lkI kv k with
  | none =>
    unfold sumK
    simp only
    rw [List.filter_append, List.map_append, List.sum_append, List.filter_cons]
    cases p k <;> simp
  | some c => exact sum_set nd e
/-- how often each stands in a list -/
def kvC (ks : List Int) : KV := ks.foldl incK []
theorem kvC_snoc {ks : List Int} {k : Int} : kvC (ks ++ [k]) = incK (kvC ks) k := by unfold kvC; rw [List.foldl_append]; rfl
theorem snoc_ind {P : List Int → Prop} (h0 : P []) (h1 : ∀ ks k, P ks → P (ks ++ [k])) (ks : List Int) : P ks := by
  have : ∀ l : List Int, P l.reverse := fun l => by
    induction l with
    | nil => exact h0
    | cons a l ih => rw [List.reverse_cons]; exact h1 _ _ ih
  have := this ks.reverse
  rwa [List.reverse_reverse] at this
theorem kvC_nd (ks : List Int) : ndK (kvC ks) := snoc_ind (P := fun ks => ndK (kvC ks)) List.nodup_nil (fun ks k h => by rw [kvC_snoc]; exact nd_inc h) ks
theorem kvC_lk (k : Int) (ks : List Int) : lkI (kvC ks) k = if k ∈ ks then some (ks.count k : Int) else none :=
  snoc_ind (P := fun ks => lkI (kvC ks) k = if k ∈ ks then some (ks.count k : Int) else none) rfl (fun ks a ih => by
    rw [kvC_snoc, lk_inc]
    by_cases e : k = a
    · subst e
      rw [if_pos rfl, ih]
      by_cases m : k ∈ ks
      · simp [m, List.count_append]
      · simp [m, List.count_append, List.count_eq_zero.mpr m]
    · rw [if_neg e, ih]
      have : ¬ a = k := fun z => e z.symm
      simp [e, List.count_append, List.count_cons, this]) ks
theorem kvC_sum (p : Int → Bool) (ks : List Int) : sumK p (kvC ks) = ((ks.filter p).length : Nat) :=
  snoc_ind (P := fun ks => sumK p (kvC ks) = ((ks.filter p).length : Nat)) rfl (fun ks a ih => by
    rw [kvC_snoc, sum_inc (kvC_nd ks), ih, List.filter_append, List.length_append, List.filter_cons]
    cases p a <;> simp) ks
theorem kvC_len (ks : List Int) : (kvC ks).length ≤ ks.length := snoc_ind (P := fun ks => (kvC ks).length ≤ ks.length) (Nat.le_refl _) (fun ks a ih => by
    rw [kvC_snoc, List.length_append]
    unfold incK
    cases lkI (kvC ks) a with
    | none => simp; omega
    | some c => simp [setI]; omega) ks
theorem lk_mem {k c : Int} : ∀ {kv : KV}, lkI kv k = some c → (k, c) ∈ kv
  | [], h => by simp [lkI] at h
  | (a, c') :: r, h => by
    rw [lkI] at h
    by_cases e : a = k
    · rw [if_pos e] at h; cases h; subst e; simp
    · rw [if_neg e] at h; exact List.mem_cons_of_mem _ (lk_mem h)
theorem mem_lk {k c : Int} : ∀ {kv : KV}, ndK kv → (k, c) ∈ kv → lkI kv k = some c
  | [], _, h => by cases h
  | (a, c') :: r, nd, h => by
    have nd' := List.nodup_cons.mp (show (a :: r.map (·.1)).Nodup from nd)
    rw [lkI]
    rcases List.mem_cons.mp h with h | h
    · cases h; rw [if_pos rfl]
    · have : ¬ a = k := fun z => nd'.1 (z ▸ List.mem_map.mpr ⟨_, h, rfl⟩)
      rw [if_neg this]; exact mem_lk nd'.2 h
theorem lk_drop {k k' : Int} : ∀ {kv : KV}, lkI (kv.filter fun p => decide (p.1 ≠ k)) k' = if k' = k then none else lkI kv k'
  | [] => by simp [lkI]
  | (a, c) :: r => by
    rw [List.filter_cons]
    by_cases e : a = k
    · subst e
      rw [if_neg (by simp), lk_drop (kv := r), lkI]
      by_cases e2 : k' = a
      · simp [e2]
      · have : ¬ a = k' := fun z => e2 z.symm
        simp [e2, this]
    · rw [if_pos (by simp [e]), lkI, lkI, lk_drop (kv := r)]
      by_cases e2 : k' = k
      · subst e2; simp [e]
      · simp [e2]
theorem nd_drop {k : Int} {kv : KV} (h : ndK kv) : ndK (kv.filter fun p => decide (p.1 ≠ k)) := List.Nodup.sublist (List.Sublist.map _ List.filter_sublist) h
/-! ### whether a step finds its inputs first -/
def findsG (need : Int → Int) : KV → List Int → Bool
  | kv, [] => kv.isEmpty
  | kv, g :: r => if kv.isEmpty then true else match lkI kv g with
    | none => false
    | some c => if c < need g && !(kv.filter fun p => decide (p.1 ≠ g)).isEmpty then false else findsG need (kv.filter fun p => decide (p.1 ≠ g)) r
/-- o stands ahead of g -/
def Bef (L : List Int) (o g : Int) : Prop := ∃ r1 r2, L = r1 ++ g :: r2 ∧ o ∈ r1
theorem bef_cons {x : Int} {L : List Int} {o g : Int} : Bef (x :: L) o g ↔ (x = o ∧ g ∈ L) ∨ Bef L o g := by
  constructor
  · rintro ⟨r1, r2, e, h⟩
    cases r1 with
    | nil => cases h
    | cons y r1 =>
      injection e with e1 e2
      subst e1
      rcases List.mem_cons.mp h with h | h
      · exact .inl ⟨h.symm, by rw [e2]; simp⟩
      · exact .inr ⟨r1, r2, e2, h⟩
  · rintro (⟨rfl, h⟩ | ⟨r1, r2, e, h⟩)
    · obtain ⟨s, t, rfl⟩ := List.append_of_mem h
      exact ⟨x :: s, t, rfl, by simp⟩
    · exact ⟨x :: r1, r2, by rw [e]; rfl, by simp [h]⟩
theorem bef_mem {L : List Int} {o g : Int} (h : Bef L o g) : o ∈ L ∧ g ∈ L := by
  obtain ⟨r1, r2, rfl, h⟩ := h
  exact ⟨by simp [h], by simp⟩
theorem bef_filter {p : Int → Bool} {o g : Int} : ∀ {L : List Int}, Bef (L.filter p) o g ↔ Bef L o g ∧ p o = true ∧ p g = true
  | [] => by
    constructor
    · rintro ⟨r1, r2, e, h⟩; simp at e
    · rintro ⟨h0, _⟩; obtain ⟨r1, r2, e, h⟩ := h0; simp at e
  | x :: L => by
    have ih := bef_filter (p := p) (o := o) (g := g) (L := L)
    rw [List.filter_cons, bef_cons]
    cases hx : p x with
    | true =>
      rw [if_pos rfl, bef_cons, ih]
      constructor
      · rintro (⟨rfl, h⟩ | ⟨h, h2, h3⟩)
        · obtain ⟨h1, h2⟩ := List.mem_filter.mp h
          exact ⟨.inl ⟨rfl, h1⟩, hx, h2⟩
        · exact ⟨.inr h, h2, h3⟩
      · rintro ⟨⟨rfl, h⟩ | h, h2, h3⟩
        · exact .inl ⟨rfl, List.mem_filter.mpr ⟨h, h3⟩⟩
        · exact .inr ⟨h, h2, h3⟩
    | false =>
      rw [if_neg (by simp), ih]
      constructor
      · rintro ⟨h, h2, h3⟩; exact ⟨.inr h, h2, h3⟩
      · rintro ⟨⟨rfl, h⟩ | h, h2, h3⟩
        · rw [hx] at h2; cases h2
        · exact ⟨h, h2, h3⟩
theorem finds_iff {need : Int → Int} : ∀ {L : List Int} {kv : KV}, L.Nodup → ndK kv → (∀ x ∈ L, 0 < need x) → (∀ p ∈ kv, p.2 ≤ need p.1) →
    (findsG need kv L = true ↔ (∀ p ∈ kv, p.1 ∈ L) ∧ ∀ o g, Bef L o g → (lkI kv g).isSome = true → need o = (lkI kv o).getD 0)
  | [], kv, _, _, _, _ => by
    rw [findsG]
    constructor
    · intro h
      have : kv = [] := by simpa using h
      subst this
      exact ⟨fun p hp => (nomatch hp), fun o g _ h => by simp [lkI] at h⟩
    · rintro ⟨h, _⟩
      cases kv with
      | nil => rfl
      | cons p r => exact absurd (h p (by simp)) (by simp)
  | x :: L, kv, nd, ndk, pos, le => by
    obtain ⟨n1, n2⟩ := List.nodup_cons.mp nd
    rw [findsG]
    cases kv with
    | nil => simp [lkI]
    | cons p r =>
      rw [if_neg (by simp)]
      generalize hkv : (p :: r : KV) = kv at *
      cases e : lkI kv x with
      | none =>
        simp only [Bool.false_eq_true, false_iff]
        rintro ⟨h1, h2⟩
        have hp : p ∈ kv := by rw [← hkv]; simp
        have hs : (lkI kv p.1).isSome = true := by rw [mem_lk ndk (show (p.1, p.2) ∈ kv from hp)]; rfl
        have hx : p.1 ≠ x := lk_none.mp e p hp
        have hL : p.1 ∈ L := (List.mem_cons.mp (h1 p hp)).resolve_left hx
        have := h2 x p.1 (bef_cons.mpr (.inl ⟨rfl, hL⟩)) hs
        rw [e] at this
        have := pos x (by simp)
        simp at *
        omega
      | some c =>
        simp only
        have ih := finds_iff (need := need) (L := L) (kv := kv.filter fun p => decide (p.1 ≠ x)) n2 (nd_drop ndk) (fun y hy => pos y (by simp [hy])) (fun q hq => le q ((List.mem_filter.mp hq).1))
        have hc : c ≤ need x := le (x, c) (lk_mem e)
        cases hk : (kv.filter fun p => decide (p.1 ≠ x)) with
        | nil =>
          have t : findsG need [] L = true := by cases L <;> rfl
          have all : ∀ q ∈ kv, q.1 = x := fun q hq => by
            have : q ∉ kv.filter fun p => decide (p.1 ≠ x) := by rw [hk]; simp
            rw [List.mem_filter] at this
            simpa [hq] using this
          simp only [List.isEmpty_nil, Bool.not_true, Bool.and_false, Bool.false_eq_true, if_false, t, true_iff]
          refine ⟨fun q hq => by rw [all q hq]; simp, fun o g hb hs => ?_⟩
          exfalso
          obtain ⟨d, hd⟩ := Option.isSome_iff_exists.mp hs
          have : g = x := all (g, d) (lk_mem hd)
          subst this
          rcases bef_cons.mp hb with ⟨_, h⟩ | h
          · exact n1 h
          · exact n1 (bef_mem h).2
        | cons q0 r0 =>
          rw [hk] at ih
          simp only [List.isEmpty_cons, Bool.not_false, Bool.and_true, decide_eq_true_eq]
          have hq0 : q0 ∈ kv.filter fun p => decide (p.1 ≠ x) := by rw [hk]; simp
          obtain ⟨hq1, hq2⟩ := List.mem_filter.mp hq0
          have hq2 : q0.1 ≠ x := by simpa using hq2
          have lk' : ∀ k, lkI (q0 :: r0) k = if k = x then none else lkI kv k := fun k => by rw [← hk]; exact lk_drop
          by_cases hlt : c < need x
          · rw [if_pos hlt]
            simp only [Bool.false_eq_true, false_iff]
            rintro ⟨h1, h2⟩
            have hL : q0.1 ∈ L := (List.mem_cons.mp (h1 q0 hq1)).resolve_left hq2
            have := h2 x q0.1 (bef_cons.mpr (.inl ⟨rfl, hL⟩)) (by rw [mem_lk ndk (show (q0.1, q0.2) ∈ kv from hq1)]; rfl)
            rw [e] at this
            simp at this
            omega
          · rw [if_neg hlt, ih]
            constructor
            · rintro ⟨h1, h2⟩
              refine ⟨fun q hq => ?_, fun o g hb hs => ?_⟩
              · by_cases z : q.1 = x
                · simp [z]
                · have : q ∈ q0 :: r0 := by rw [← hk]; exact List.mem_filter.mpr ⟨hq, by simpa using z⟩
                  exact List.mem_cons_of_mem _ (h1 q this)
              · rcases bef_cons.mp hb with ⟨rfl, h⟩ | h
                · rw [e]; simp; omega
                · have gx : g ≠ x := fun z => n1 (z ▸ (bef_mem h).2)
                  have ox : o ≠ x := fun z => n1 (z ▸ (bef_mem h).1)
                  have := h2 o g h (by rw [lk', if_neg gx]; exact hs)
                  rwa [lk', if_neg ox] at this
            · rintro ⟨h1, h2⟩
              refine ⟨fun q hq => ?_, fun o g hb hs => ?_⟩
              · rw [← hk] at hq
                obtain ⟨a1, a2⟩ := List.mem_filter.mp hq
                exact (List.mem_cons.mp (h1 q a1)).resolve_left (by simpa using a2)
              · have gx : g ≠ x := fun z => n1 (z ▸ (bef_mem hb).2)
                have ox : o ≠ x := fun z => n1 (z ▸ (bef_mem hb).1)
                rw [lk', if_neg gx] at hs
                rw [lk', if_neg ox]
                exact h2 o g (bef_cons.mpr (.inr hb)) hs

end Law

set_option Elab.async false
set_option linter.all false
set_option maxRecDepth 100000
set_option maxHeartbeats 2000000
namespace Law
open PySem PySem.Spec PyProof.Rows L2 Md
/-! ### sets of steps as bits -/
theorem bit_and {b t : Nat} : Builtin.bitAnd ((b : Int) / 2 ^ (Int.toNat (t : Int))) 1 = if b.testBit t then 1 else 0 := by
  have e : ((b : Int) / 2 ^ (Int.toNat (t : Int))) = ((b >>> t : Nat) : Int) := by
    rw [Nat.shiftRight_eq_div_pow]; simp
  rw [e]
  unfold Builtin.bitAnd
  rw [show decide (0 ≤ ((b >>> t : Nat) : Int)) = true from decide_eq_true (Int.natCast_nonneg _), show decide ((0 : Int) ≤ 1) = true from rfl]
  show (((Int.toNat ((b >>> t : Nat) : Int)) &&& 1 : Nat) : Int) = _
  rw [Int.toNat_natCast, Nat.and_one_is_mod, Nat.testBit_eq_decide_div_mod_eq, Nat.shiftRight_eq_div_pow]
  by_cases h : b / 2 ^ t % 2 = 1
  · simp [h]
  · have : b / 2 ^ t % 2 = 0 := by omega
    simp [this]
theorem bit_or {b s : Nat} : Builtin.bitOr (b : Int) (1 * 2 ^ (Int.toNat (s : Int))) = ((b ||| 1 <<< s : Nat) : Int) := by
  have e : (1 * 2 ^ (Int.toNat (s : Int)) : Int) = ((1 <<< s : Nat) : Int) := by
    rw [Nat.shiftLeft_eq]; simp
  have nn : ∀ x : Int, Builtin.bitNot (Builtin.bitNot x) = x := fun x => by unfold Builtin.bitNot; omega
  have neg : ∀ k : Nat, decide (0 ≤ Builtin.bitNot (k : Int)) = false := fun k => decide_eq_false (by unfold Builtin.bitNot; omega)
  rw [e]
  unfold Builtin.bitOr Builtin.bitAnd
  rw [neg, neg]
  show Builtin.bitNot (Builtin.bitNot ((((Builtin.bitNot (Builtin.bitNot (b : Int))).toNat ||| (Builtin.bitNot (Builtin.bitNot ((1 <<< s : Nat) : Int))).toNat : Nat)) : Int)) = _
  rw [nn, nn, nn, Int.toNat_natCast, Int.toNat_natCast]
def setB (b : Nat) (s : Int) : Nat := b ||| 1 <<< s.toNat
def inB (b : Nat) (s : Int) : Bool := b.testBit s.toNat
theorem inB_set {b : Nat} {s t : Int} (h0 : 0 ≤ s) (h1 : 0 ≤ t) : inB (setB b s) t = (inB b t || decide (t = s)) := by
  unfold inB setB
  rw [Nat.testBit_or, Nat.one_shiftLeft, Nat.testBit_two_pow]
  congr 1
  by_cases e : t = s
  · simp [e]
  · have : ¬ s.toNat = t.toNat := by omega
    simp [e, this]
def bitsR (row : List Int) : Nat := row.foldl setB 0
theorem bitsR_snoc {row : List Int} {s : Int} : bitsR (row ++ [s]) = setB (bitsR row) s := by unfold bitsR; rw [List.foldl_append]; rfl
theorem inB_row {t : Int} (ht : 0 ≤ t) (row : List Int) : (∀ s ∈ row, 0 ≤ s) → inB (bitsR row) t = decide (t ∈ row) :=
  snoc_ind (P := fun row => (∀ s ∈ row, 0 ≤ s) → inB (bitsR row) t = decide (t ∈ row)) (fun _ => by simp [bitsR, inB]) (fun row s ih h => by
    rw [bitsR_snoc, inB_set (h s (by simp)) ht, ih fun x hx => h x (by simp [hx])]
    simp) row
/-! ### standings -/
abbrev Stg := Nat × List Int
def gvL (us : List T3) (s : Int) : List Int := (us.filter fun u => decide (u.2.1 = s)).map (·.1)
def needB (us : List T3) (b : Nat) (g : Int) : Int := (((tkI us g.toNat).filter fun t => !inB b t).length : Nat)
def findsF (us : List T3) (q : Bool) (st : Stg) (s : Int) : Bool := findsG (needB us st.1) (kvC (gvL us s)) (if q then st.2 else st.2.reverse)
def behF (us : List T3) (st : Stg) (s : Int) : Stg := (setB st.1 s, (st.2 ++ [s]).filter fun g => decide (0 < needB us (setB st.1 s) g))
def nextF (n : Nat) (us : List T3) (q : Bool) (st : Stg) : List Int := (rangeI n).filter fun s => !inB st.1 s && findsF us q st s
def heiF (us : List T3) (st : Stg) : Int := (st.2.map fun g => needB us st.1 g).sum
def remF (n : Nat) (b : Nat) : Nat := ((rangeI n).filter fun s => !inB b s).length
/-- the standing behind a row -/
def stR (us : List T3) (row : List Int) : Stg := (bitsR row, row.filter fun g => decide (0 < needB us (bitsR row) g))
theorem needB_mono {us : List T3} {b : Nat} {s g : Int} (h : ∀ u ∈ us, 0 ≤ u.2.1) (hs : 0 ≤ s) : needB us (setB b s) g ≤ needB us b g := by
  unfold needB
  refine Int.ofNat_le.mpr ?_
  have : ((tkI us g.toNat).filter fun t => !inB (setB b s) t) = ((tkI us g.toNat).filter fun t => !inB b t).filter fun t => !decide (t = s) := by
    rw [List.filter_filter]
    apply List.filter_congr
    intro t ht
    unfold tkI at ht
    obtain ⟨u, hu, rfl⟩ := List.mem_map.mp ht
    rw [inB_set hs (h u (List.mem_filter.mp hu).1)]
    cases inB b u.2.1 <;> simp
  rw [this]
  exact List.filter_sublist.length_le
theorem stR_snoc {us : List T3} {row : List Int} {s : Int} (h : ∀ u ∈ us, 0 ≤ u.2.1) (hs : 0 ≤ s) : behF us (stR us row) s = stR us (row ++ [s]) := by
  unfold behF stR
  simp only [bitsR_snoc]
  congr 1
  rw [List.filter_append, List.filter_append, List.filter_filter]
  congr 1
  apply List.filter_congr
  intro g _
  have := needB_mono (us := us) (b := bitsR row) (g := g) h hs
  by_cases z : 0 < needB us (setB (bitsR row) s) g
  · have : 0 < needB us (bitsR row) g := by omega
    simp [z, this]
  · simp [z]
theorem tk_gv {us : List T3} {g s : Int} (hg : 0 ≤ g) : (tkI us g.toNat).count s = (gvL us s).count g := by
  have e : ((g.toNat : Nat) : Int) = g := by omega
  unfold tkI gvL
  rw [List.count_eq_countP, List.count_eq_countP, List.countP_map, List.countP_map, List.countP_filter, List.countP_filter]
  apply List.countP_congr
  intro u _
  simp only [Function.comp, e]
  constructor
  · intro h
    rw [Bool.and_eq_true] at h ⊢
    have h1 : u.2.1 = s := by simpa using h.1
    have h2 : u.1 = g := by simpa using h.2
    simp [h1, h2]
  · intro h
    rw [Bool.and_eq_true] at h ⊢
    have h1 : u.1 = g := by simpa using h.1
    have h2 : u.2.1 = s := by simpa using h.2
    simp [h1, h2]
theorem len_count {p : Int → Bool} {s : Int} : ∀ {l : List Int}, p s = true → (l.filter p).length = l.count s + (l.filter fun t => p t && !decide (t = s)).length
  | [], _ => rfl
  | x :: l, h => by
    have ih := len_count (l := l) h
    rw [List.filter_cons, List.filter_cons, List.count_cons]
    by_cases e : x = s
    · subst e
      simp [h, ih]; omega
    · cases hp : p x <;> simp [e, ih] <;> omega
/-- what may come, on a pile or a queue -/
structure MayQ (w : Web) (q : Bool) (row : List Int) (s : Int) : Prop where
  there : ∀ g ∈ inp w s, g ∈ row
  over : ∀ o g, Bef (if q then row else row.reverse) o g → g ∈ inp w s → ∀ t ∈ rangeI w.length, o ∈ inp w t → t = s ∨ t ∈ row
theorem bef_rev {row : List Int} {o g : Int} : Bef row.reverse o g ↔ ∃ r1 r2, row = r1 ++ g :: r2 ∧ o ∈ r2 := by
  constructor
  · rintro ⟨r1, r2, e, h⟩
    refine ⟨r2.reverse, r1.reverse, ?_, by simpa using h⟩
    have := congrArg List.reverse e
    simpa using this
  · rintro ⟨r1, r2, e, h⟩
    exact ⟨r2.reverse, r1.reverse, by rw [e]; simp, by simpa using h⟩
theorem mayQ_pile {w : Web} {row : List Int} {s : Int} : MayQ w false row s ↔ MayCome w row s := by
  constructor
  · intro h
    exact ⟨h.there, fun r1 r2 g e hg o ho => h.over o g (bef_rev.mpr ⟨r1, r2, e, ho⟩) hg⟩
  · intro h
    refine ⟨h.there, fun o g hb hg => ?_⟩
    obtain ⟨r1, r2, e, ho⟩ := bef_rev.mp hb
    exact h.over r1 r2 g e hg o ho
theorem gv_mem {w : Web} {us : List T3} (hu : us.Perm (tiesT w)) {s g : Int} (hs : s ∈ rangeI w.length) (hg : 0 ≤ g) : g ∈ gvL us s ↔ g ∈ inp w s := by
  have h1 : g ∈ gvL us s ↔ s ∈ tkI us g.toNat := by
    rw [← List.count_pos_iff, ← List.count_pos_iff, tk_gv hg]
  rw [h1, tk_mem hu, show ((g.toNat : Nat) : Int) = g by omega]
  exact ⟨fun h => h.2, fun h => ⟨hs, h⟩⟩
theorem gv_range {w : Web} {us : List T3} (hu : us.Perm (tiesT w)) {n : Nat} (hw : WebOk n w) {u : T3} (h : u ∈ us) : 0 ≤ u.1 ∧ u.1 < (w.length : Int) ∧ 0 ≤ u.2.1 ∧ u.2.1 < (w.length : Int) := by
  obtain ⟨k, j, e1, e2, hk, e3⟩ := tie_at (hu.subset h)
  have := (hw.2.1 w[k] (List.getElem_mem hk)).2.2 u.1 (List.mem_of_getElem? e3)
  omega
theorem finds_may {w : Web} {us : List T3} {n : Nat} (hw : WebOk n w) (hu : us.Perm (tiesT w)) {q : Bool} {row : List Int} {s : Int} (nd : row.Nodup) (hr : ∀ o ∈ row, 0 ≤ o) (hs : s ∈ rangeI w.length) (hn : s ∉ row) :
    findsF us q (stR us row) s = true ↔ MayQ w q row s := by
  have hu0 : ∀ u ∈ us, 0 ≤ u.1 ∧ 0 ≤ u.2.1 := fun u h => ⟨(gv_range hu hw h).1, (gv_range hu hw h).2.2.1⟩
  have s0 : 0 ≤ s := (rangeI_mem.mp hs).1
  have ub : inB (bitsR row) s = false := by rw [inB_row s0 row hr]; simpa using hn
  have g0 : ∀ g ∈ gvL us s, 0 ≤ g := fun g hg => by
    unfold gvL at hg
    obtain ⟨u, h1, rfl⟩ := List.mem_map.mp hg
    exact (hu0 u (List.mem_filter.mp h1).1).1
  have pos : ∀ g, 0 ≤ g → needB us (bitsR row) g = ((gvL us s).count g : Nat) + (((tkI us g.toNat).filter fun t => !inB (bitsR row) t && !decide (t = s)).length : Nat) := fun g hg => by
    unfold needB
    rw [len_count (s := s) (by rw [ub]; rfl), tk_gv hg]
    simp
  obtain ⟨L, hL⟩ : ∃ L, L = (if q then row else row.reverse) := ⟨_, rfl⟩
  have eL : (if q then (stR us row).2 else (stR us row).2.reverse) = L.filter fun g => decide (0 < needB us (bitsR row) g) := by
    rw [hL]
    cases q
    · simp [stR, List.filter_reverse]
    · simp [stR]
  have mL : ∀ x, x ∈ L ↔ x ∈ row := fun x => by rw [hL]; cases q <;> simp
  have ndL : L.Nodup := by
    rw [hL]
    cases q
    · exact (List.reverse_perm row).nodup_iff.mpr nd
    · exact nd
  unfold findsF
  show findsG (needB us (bitsR row)) _ _ = true ↔ _
  rw [eL, finds_iff (ndL.filter _) (kvC_nd _) (fun x hx => of_decide_eq_true (List.mem_filter.mp hx).2) fun p hp => by
    have h1 := mem_lk (kvC_nd _) (show (p.1, p.2) ∈ kvC (gvL us s) from hp)
    rw [kvC_lk] at h1
    split at h1
    · rename_i hm
      have := pos p.1 (g0 p.1 hm)
      injection h1 with h1
      show p.2 ≤ needB us (bitsR row) p.1
      omega
    · cases h1]
  have key : ∀ g, g ∈ gvL us s → (0 < needB us (bitsR row) g) := fun g hg => by
    have := pos g (g0 g hg)
    have := List.count_pos_iff.mpr hg
    omega
  have keys : (∀ p ∈ kvC (gvL us s), p.1 ∈ L.filter fun g => decide (0 < needB us (bitsR row) g)) ↔ ∀ g ∈ gvL us s, g ∈ row := by
    constructor
    · intro h g hg
      have : lkI (kvC (gvL us s)) g = some ((gvL us s).count g : Int) := by rw [kvC_lk, if_pos hg]
      exact (mL g).mp (List.mem_filter.mp (h _ (lk_mem this))).1
    · intro h p hp
      have h1 := mem_lk (kvC_nd _) (show (p.1, p.2) ∈ kvC (gvL us s) from hp)
      rw [kvC_lk] at h1
      split at h1
      · rename_i hm
        exact List.mem_filter.mpr ⟨(mL _).mpr (h _ hm), decide_eq_true (key _ hm)⟩
      · cases h1
  have mem : ∀ g, 0 ≤ g → (g ∈ gvL us s ↔ g ∈ inp w s) := fun g hg => gv_mem hu hs hg
  have inp0 : ∀ t ∈ rangeI w.length, ∀ g ∈ inp w t, 0 ≤ g := fun t ht g hg => by
    have hk := rangeI_mem.mp ht
    have e : inp w t = w[t.toNat].2 := by unfold inp; simp [show t.toNat < w.length by omega]
    rw [e] at hg
    exact ((hw.2.1 _ (List.getElem_mem (show t.toNat < w.length by omega))).2.2 g hg).1
  rw [keys]
  constructor
  · rintro ⟨h1, h2⟩
    refine ⟨fun g hg => h1 g ((mem g (inp0 s hs g hg)).mpr hg), fun o g hb hg t ht ho => ?_⟩
    have hgv := (mem g (inp0 s hs g hg)).mpr hg
    have o0 := inp0 t ht o ho
    by_cases hts : t = s
    · exact .inl hts
    · refine Classical.byContradiction fun hno => ?_
      have tn : t ∉ row := fun z => hno (.inr z)
      have tu : inB (bitsR row) t = false := by rw [inB_row (rangeI_mem.mp ht).1 row hr]; simpa using tn
      have tk : t ∈ tkI us o.toNat := (tk_mem hu).mpr ⟨ht, by rw [show ((o.toNat : Nat) : Int) = o by omega]; exact ho⟩
      have hp := pos o o0
      have hlen : 0 < ((tkI us o.toNat).filter fun t => !inB (bitsR row) t && !decide (t = s)).length := List.length_pos_of_mem (List.mem_filter.mpr ⟨tk, by simp [tu, hts]⟩)
      have on : 0 < needB us (bitsR row) o := by omega
      rw [← hL] at hb
      have := h2 o g (bef_filter.mpr ⟨hb, decide_eq_true on, decide_eq_true (key g hgv)⟩) (by rw [kvC_lk, if_pos hgv]; rfl)
      rw [kvC_lk] at this
      split at this
      · simp at this; omega
      · rename_i z
        have := List.count_eq_zero.mpr z
        simp at *
        omega
  · intro mc
    refine ⟨fun g hg => mc.there g ((mem g (g0 g hg)).mp hg), fun o g hb hgs => ?_⟩
    obtain ⟨hb, ho, hg⟩ := bef_filter.mp hb
    have ho := of_decide_eq_true ho
    have hgv : g ∈ gvL us s := by
      rw [kvC_lk] at hgs
      split at hgs
      · assumption
      · cases hgs
    have o0 : 0 ≤ o := hr o ((mL o).mp (bef_mem hb).1)
    have e0 : ((tkI us o.toNat).filter fun t => !inB (bitsR row) t && !decide (t = s)) = [] := List.filter_eq_nil_iff.mpr fun t ht => by
      obtain ⟨h1, h2⟩ := (tk_mem hu).mp ht
      rw [show ((o.toNat : Nat) : Int) = o by omega] at h2
      rw [hL] at hb
      rcases mc.over o g hb ((mem g (g0 g hgv)).mp hgv) t h1 h2 with rfl | z
      · simp
      · have : inB (bitsR row) t = true := by rw [inB_row (rangeI_mem.mp h1).1 row hr]; simpa using z
        simp [this]
    have hp := pos o o0
    rw [e0] at hp
    rw [kvC_lk]
    split
    · simp at hp ⊢; omega
    · rename_i z
      have := List.count_eq_zero.mpr z
      simp at hp ⊢
      omega

end Law

set_option Elab.async false
set_option linter.all false
set_option maxRecDepth 100000
set_option maxHeartbeats 2000000
namespace Law
open PySem PySem.Spec PyProof.Rows L2 Md
/-! ### the object of Passes -/
abbrev PFs (n : Nat) (q : Bool) (u w : List D) (k p : D) : List (Str × D) := [("many", .int (n : Int)), ("is_queue", .bl q), ("uses", .lst u), ("wants", .lst w), ("known", k), ("peaks", p)]
section
variable {n : Nat} {q : Bool} {u w : List D} {k p : D}
theorem pf_many : List.lookup ("many" : Str) (PFs n q u w k p) = some (.int (n : Int)) := rfl
theorem pf_queue : List.lookup ("is_queue" : Str) (PFs n q u w k p) = some (.bl q) := rfl
theorem pf_uses : List.lookup ("uses" : Str) (PFs n q u w k p) = some (.lst u) := rfl
theorem pf_wants : List.lookup ("wants" : Str) (PFs n q u w k p) = some (.lst w) := rfl
theorem pf_known : List.lookup ("known" : Str) (PFs n q u w k p) = some k := rfl
theorem pf_peaks : List.lookup ("peaks" : Str) (PFs n q u w k p) = some p := rfl
theorem pf_cells : List.lookup ("cells" : Str) (PFs n q u w k p) = none := rfl
theorem pf_finds : List.lookup ("finds" : Str) (PFs n q u w k p) = none := rfl
theorem pf_behind : List.lookup ("behind" : Str) (PFs n q u w k p) = none := rfl
theorem pf_nexts : List.lookup ("nexts" : Str) (PFs n q u w k p) = none := rfl
theorem pf_done : List.lookup ("is_done" : Str) (PFs n q u w k p) = none := rfl
theorem pf_height : List.lookup ("height" : Str) (PFs n q u w k p) = none := rfl
theorem pf_peak : List.lookup ("peak" : Str) (PFs n q u w k p) = none := rfl
theorem pf_ways : List.lookup ("ways" : Str) (PFs n q u w k p) = none := rfl
end
theorem pf_meth {m : List D → Sto → Out D} : List.lookup ("Passes" : Str) [(("Passes" : Str), m)] = some m := rfl
theorem pf_mem : decide (("Passes" : Str) ∈ [("Passes" : Str)]) = true := by decide
structure PassAt (n : Nat) (us : List T3) (q : Bool) (L : Nat) (S : Sto) (kn pk : List (D × D)) : Prop where
  inst : S[L]? = some (.ins "Passes" (PFs n q (refsL (L + 1) n) (refsL (L + 1 + n) n) (.ref (L + 1 + 2 * n)) (.ref (L + 2 + 2 * n))))
  uses : ∀ g, g < n → S[L + 1 + g]? = some (.dct ((kvC (tkI us g)).map encK))
  wants : ∀ s, s < n → S[L + 1 + n + s]? = some (.dct ((kvC (gvL us (s : Int))).map encK))
  known : S[L + 1 + 2 * n]? = some (.dcn kn)
  peaks : S[L + 2 + 2 * n]? = some (.dcn pk)
theorem refs_at {m n k : Nat} (h : k < n) : atI (refsL m n) (k : Int) = some (.ref (m + k)) := by
  rw [atI_nat']
  unfold refsL
  simp [h]
theorem tk_le {us : List T3} {k : Nat} : (tkI us k).length ≤ us.length := by
  unfold tkI
  rw [List.length_map]
  exact List.filter_sublist.length_le
theorem gv_le {us : List T3} {s : Int} : (gvL us s).length ≤ us.length := by
  unfold gvL
  rw [List.length_map]
  exact List.filter_sublist.length_le
theorem bit0 {b : Nat} {t : Int} (ht : 0 ≤ t) {S : Sto} : (eqD S (.int (Builtin.bitAnd ((b : Int) / 2 ^ t.toNat) 1)) (.int 0)) = some (!inB b t) := by
  obtain ⟨k, rfl⟩ : ∃ k : Nat, t = (k : Int) := ⟨t.toNat, by omega⟩
  rw [bit_and, eqD_int]
  unfold inB
  rw [Int.toNat_natCast]
  cases b.testBit k <;> rfl
section
variable {n : Nat} {us : List T3} {q : Bool} {L : Nat} {S : Sto} {kn pk : List (D × D)}
theorem PassAt.lt (h : PassAt n us q L S kn pk) : L + 2 + 2 * n < S.length := (List.getElem?_eq_some_iff.mp h.peaks).1
theorem done_run {b : Nat} (hn : n ≤ 10) (h : PassAt n us q L S kn pk) : m_Passes_is_done [.ref L, .int (b : Int)] S = .ok (.bl (decide (b = 2 ^ n - 1))) S := by
  unfold m_Passes_is_done
  refine def_pure rfl ⟨_, S, ?_, by simp, thaw_ok rfl⟩
  have hi := h.inst
  have c : cPow 1 (n : Int) = true := decide_eq_true ⟨by omega, by omega, by decide⟩
  have e : ((b : Int) = 2 ^ n - 1) ↔ b = 2 ^ n - 1 := by
    have hp : (0 : Nat) < 2 ^ n := Nat.two_pow_pos n
    have : ((2 : Int) ^ n - 1) = ((2 ^ n - 1 : Nat) : Int) := by
      rw [Int.natCast_sub (by omega)]; simp
    rw [this]
    omega
  generalize hF : PFs n q (refsL (L + 1) n) (refsL (L + 1 + n) n) (.ref (L + 1 + 2 * n)) (.ref (L + 2 + 2 * n)) = F at hi
  have lk : List.lookup ("many" : Str) F = some (.int (n : Int)) := by rw [← hF]; exact pf_many
  simp [startL, hi, lk, c, e]
theorem item_filter {p : Int → Bool} {pD : D → Bool} {fD : D → D} (h1 : ∀ a c : Int, pD (.wtu [.int a, .int c]) = p a) (h2 : ∀ a c : Int, fD (.wtu [.int a, .int c]) = .int c) (kv : KV) :
    ((itemsD (kv.map encK)).filter pD).map fD = ((kv.filter fun x => p x.1).map (·.2)).map D.int := by
  induction kv with
  | nil => rfl
  | cons x kv ih =>
    show (List.map fD (List.filter pD (.wtu [.int x.1, .int x.2] :: itemsD (kv.map encK)))) = _
    rw [List.filter_cons, List.filter_cons, h1]
    cases p x.1
    · exact ih
    · simp only [if_true, List.map_cons, h2, ih]
theorem int_all (l : List Int) : (l.map D.int).all isIntD = true := by
  rw [List.all_map]
  exact List.all_eq_true.mpr fun _ _ => rfl
theorem set_same {S : Sto} {l : Nat} {c c' : Cell} (h : S[l]? = some c) : (S.set l c').set l c = S := by
  apply List.ext_getElem?
  intro j
  rw [List.set_set]
  by_cases hj : l = j
  · subst hj; rw [List.getElem?_set_self (List.getElem?_eq_some_iff.mp h).1, h]
  · rw [List.getElem?_set_ne hj]
theorem cells_run {b g : Nat} (hz : us.length ≤ 1000) (hu : ∀ u ∈ us, 0 ≤ u.2.1) (h : PassAt n us q L S kn pk) (hg : g < n) : m_Passes_cells [.ref L, .int (b : Int), .int (g : Int)] S = .ok (.int (needB us b g)) S := by
  unfold m_Passes_cells
  refine def_pure rfl ⟨_, S, ?_, by simp, thaw_ok rfl⟩
  have hi := h.inst
  generalize hF : PFs n q (refsL (L + 1) n) (refsL (L + 1 + n) n) (.ref (L + 1 + 2 * n)) (.ref (L + 2 + 2 * n)) = F at hi
  have lk : List.lookup ("uses" : Str) F = some (.lst (refsL (L + 1) n)) := by rw [← hF]; exact pf_uses
  have ra : ∀ S', ixD S' (.lst (refsL (L + 1) n)) (.int (g : Int)) = some (.ref (L + 1 + g)) := fun S' => refs_at hg
  generalize refsL (L + 1) n = R at ra lk
  have hmo : ∀ S' : Sto, S'[L]? = some (.ins "Passes" F) → mOp fIx (mFld [("Passes" : Str)] "uses" (mVar 0)) (mVar 2) (startL 5 [.ref L, .int (b : Int), .int (g : Int)]) S' = .ok (.ref (L + 1 + g)) S' := fun S' e => by
    simp [startL, e, lk, ra]
  have hk := h.uses g hg
  obtain ⟨kv, hkv⟩ : ∃ kv, kv = kvC (tkI us g) := ⟨_, rfl⟩
  rw [← hkv] at hk
  have kl : kv.length ≤ 1000 := by
    rw [hkv]
    exact Nat.le_trans (kvC_len _) (Nat.le_trans tk_le hz)
  have k0 : ∀ x ∈ kv, 0 ≤ x.1 := fun x hx => by
    have h1 := mem_lk (kvC_nd (tkI us g)) (show (x.1, x.2) ∈ kvC (tkI us g) by rw [← hkv]; exact hx)
    rw [kvC_lk] at h1
    split at h1
    · rename_i hm
      unfold tkI at hm
      obtain ⟨u, h1, e⟩ := List.mem_map.mp hm
      rw [← e]
      exact hu u (List.mem_filter.mp h1).1
    · cases h1
  have hd : dctL S (L + 1 + g) = some (kv.map encK) := by unfold dctL; rw [hk]
  have hlk : lkRef (mOp fIx (mFld [("Passes" : Str)] "uses" (mVar 0)) (mVar 2)) (startL 5 [.ref L, .int (b : Int), .int (g : Int)]) S = some (L + 1 + g, kv.map encK) := by
    unfold lkRef
    rw [hmo S hi]
    show (dctL S (L + 1 + g)).map _ = _
    rw [hd]; rfl
  have hi2 : (S.set (L + 1 + g) (.lkd (kv.map encK)))[L]? = some (.ins "Passes" F) := by rw [List.getElem?_set_ne (by omega)]; exact hi
  obtain ⟨pD, hp⟩ : ∃ pD : D → Bool, ∀ a c : Int, pD (.wtu [.int a, .int c]) = !inB b a := ⟨fun d => match d with | .wtu [.int a, _] => !inB b a | _ => false, fun _ _ => rfl⟩
  obtain ⟨fD, hf⟩ : ∃ fD : D → D, ∀ a c : Int, fD (.wtu [.int a, .int c]) = .int c := ⟨fun d => match d with | .wtu [_, c] => c | d => d, fun _ _ => rfl⟩
  have go := lc_pure (ok := fun _ => true) (mg := mgTup 2 (mgCons (mgName 3) (mgCons (mgName 4) (mgNil)))) (mt := mB (mOp fEq (mOp fBand (mOp fShr (mVar 1) (mVar 3)) (mC (.int 1))) (mC (.int 0)))) (me := mVar 4) (lw := wipeL (plnL (startL 5 [.ref L, .int (b : Int), .int (g : Int)])) [3, 4]) (S := []) rfl pD fD (itemsD (kv.map encK)) [] (by simp [itemsD]; omega) (fun d hd => by
    unfold itemsD at hd
    rw [List.map_map] at hd
    obtain ⟨x, hx, rfl⟩ := List.mem_map.mp hd
    have x0 := k0 x hx
    have eb : ∀ S, eqD S (.int (Builtin.bitAnd ((b : Int) / 2 ^ x.1.toNat) 1)) (.int 0) = some (!inB b x.1) := fun S => bit0 x0
    refine ⟨[none, some (.int (b : Int)), some (.int (g : Int)), some (.int x.1), some (.int x.2)], rfl, ?_, fun _ => ?_⟩
    · rw [show ((fun kv : D × D => D.wtu [kv.1, kv.2]) ∘ encK) x = .wtu [.int x.1, .int x.2] from rfl, hp]
      simp [-eqD_int, x0, eb]
    · rw [show ((fun kv : D × D => D.wtu [kv.1, kv.2]) ∘ encK) x = .wtu [.int x.1, .int x.2] from rfl, hf]
      rfl)
  rw [item_filter (p := fun a => !inB b a) hp hf, List.nil_append] at go
  have lc : mLcIt (mOp fIx (mFld [("Passes" : Str)] "uses" (mVar 0)) (mVar 2)) (mgTup 2 (mgCons (mgName 3) (mgCons (mgName 4) (mgNil)))) (mB (mOp fEq (mOp fBand (mOp fShr (mVar 1) (mVar 3)) (mC (.int 1))) (mC (.int 0)))) (mVar 4) [3, 4] (startL 5 [.ref L, .int (b : Int), .int (g : Int)]) S = .ok (.lst (((kv.filter fun x => !inB b x.1).map (·.2)).map D.int)) S := by
    unfold mLcIt
    rw [hlk, need_some, hmo _ hi2, go]
    have s1 : sameO (.ok (.ref (L + 1 + g)) (S.set (L + 1 + g) (.lkd (kv.map encK)))) (L + 1 + g) (S.set (L + 1 + g) (.lkd (kv.map encK))) = true := by simp [sameO]
    have s2 : ((kv.map encK).all fun kv => isIntD kv.2) = true := by
      rw [List.all_map]
      exact List.all_eq_true.mpr fun _ _ => rfl
    dsimp only
    rw [s1, s2]
    show guardO ((((kv.filter fun x => !inB b x.1).map (·.2)).map D.int).all isIntD) _ = _
    rw [int_all]; rfl
  have sum : (((kv.filter fun x => !inB b x.1).map (·.2))).sum = needB us b g := by
    have := kvC_sum (fun t => !inB b t) (tkI us g)
    rw [← hkv] at this
    exact this
  generalize hM : mLcIt (mOp fIx (mFld [("Passes" : Str)] "uses" (mVar 0)) (mVar 2)) (mgTup 2 (mgCons (mgName 3) (mgCons (mgName 4) (mgNil)))) (mB (mOp fEq (mOp fBand (mOp fShr (mVar 1) (mVar 3)) (mC (.int 1))) (mC (.int 0)))) (mVar 4) [3, 4] = M at lc
  show b_Passes_cells _ S = _
  unfold b_Passes_cells
  rw [hM]
  have sf : fSum [.lst (((kv.filter fun x => !inB b x.1).map (·.2)).map D.int)] S = .ok (.int (needB us b g)) S := by
    show need (some _) (fun ds => need (intsD ds) fun ns => Out.ok (D.int ns.sum) S) = _
    rw [need_some, intsD_of', need_some, sum]
  generalize ((kv.filter fun x => !inB b x.1).map (·.2)).map D.int = Ls at lc sf
  simp [lc, sf]
end

end Law

set_option Elab.async false
set_option linter.all false
set_option maxRecDepth 100000
set_option maxHeartbeats 2000000
namespace Law
open PySem PySem.Spec PyProof.Rows L2 Md
/-! ### behind, height, finds, nexts -/
section
variable {n : Nat} {us : List T3} {q : Bool} {L : Nat} {S : Sto} {kn pk : List (D × D)}
/-- the object of Passes, its fields out of sight -/
def PIn (L : Nat) (S : Sto) (F : List (Str × D)) : Prop := S[L]? = some (.ins "Passes" F)
theorem meth_run {m : List D → Sto → Out D} {qn : Str} {mo : ED} {ml : AD} {loc : Md.Loc} {S : Sto} {ds : List D} {F : List (Str × D)} (hi : S[L]? = some (.ins "Passes" F)) (hl : F.lookup qn = none) (hmo : mo loc S = .ok (.ref L) S) (hml : ml loc S = .ok ds S) :
    mMeth [(("Passes" : Str), m)] qn mo ml loc S = m (.ref L :: ds) S := by
  unfold mMeth
  rw [hmo, Out.bind_ok, show insOf S (.ref L) = some (L, (("Passes" : Str), F)) by unfold insOf; simp [hi], need_some]
  show need (List.lookup ("Passes" : Str) [(("Passes" : Str), m)]) _ = _
  rw [pf_meth, need_some]
  dsimp only
  rw [hl, hml]; rfl
theorem PassAt.app {X : List Cell} (h : PassAt n us q L S kn pk) : PassAt n us q L (S ++ X) kn pk := by
  have g : ∀ {i : Nat} {c : Cell}, S[i]? = some c → (S ++ X)[i]? = some c := fun {i c} e => by
    rw [List.getElem?_append_left (List.getElem?_eq_some_iff.mp e).1]; exact e
  exact ⟨g h.inst, fun k hk => g (h.uses k hk), fun k hk => g (h.wants k hk), g h.known, g h.peaks⟩
abbrev stD (st : Stg) : D := .tup [.int (st.1 : Int), .tup (st.2.map D.int)]
/-- givers that are there -/
def LnOk (n : Nat) (l : List Int) : Prop := l.length ≤ 1000 ∧ ∀ g ∈ l, g ∈ rangeI n
theorem LnOk.nat {l : List Int} (h : LnOk n l) {g : Int} (hg : g ∈ l) : ∃ k : Nat, g = (k : Int) ∧ k < n := by
  have := rangeI_mem.mp (h.2 g hg)
  exact ⟨g.toNat, by omega, by omega⟩
theorem behind_run {st : Stg} {s : Nat} (hn : n ≤ 10) (hz : us.length ≤ 1000) (hu : ∀ u ∈ us, 0 ≤ u.2.1) (h : PassAt n us q L S kn pk) (hl : LnOk n st.2) (hs : s < n) : m_Passes_behind [.ref L, .int (st.1 : Int), .tup (st.2.map D.int), .int (s : Int)] S = .ok (stD (behF us st s)) S := by
  unfold m_Passes_behind
  refine def_pure rfl ⟨_, S, ?_, by simp, thaw_ok (okD_refs (by show okL [D.int _, .tup _] = true; rw [okL, okL, okL, okD, okD, okL_ints]; rfl))⟩
  have hi := h.inst
  generalize hF : PFs n q (refsL (L + 1) n) (refsL (L + 1 + n) n) (.ref (L + 1 + 2 * n)) (.ref (L + 2 + 2 * n)) = F at hi
  have c : cPow 1 (s : Int) = true := decide_eq_true ⟨by omega, by omega, by decide⟩
  have eb : Builtin.bitOr (st.1 : Int) (1 * 2 ^ (Int.toNat (s : Int))) = ((setB st.1 (s : Int) : Nat) : Int) := by
    rw [bit_or]; unfold setB; rw [Int.toNat_natCast]
  have hl2 : LnOk n (st.2 ++ [(s : Int)]) ∨ True := .inr trivial
  have all : ∀ g ∈ st.2 ++ [(s : Int)], ∃ k : Nat, g = (k : Int) ∧ k < n := fun g hg => by
    rcases List.mem_append.mp hg with hg | hg
    · exact hl.nat hg
    · exact ⟨s, by simpa using hg, hs⟩
  obtain ⟨b', hb'⟩ : ∃ b' : Nat, b' = setB st.1 (s : Int) := ⟨_, rfl⟩
  rw [← hb'] at eb
  have z1 := hl.1
  have lc := lc_pure (ok := cellOk ⟨[], (st.2 ++ [(s : Int)]).map D.int⟩) (mg := mgName 5) (mt := mB (mOp fGt (mMeth [(("Passes" : Str), m_Passes_cells)] "cells" (mVar 0) (mCons (mVar 4) (mCons (mVar 5) (mNil)))) (mC (.int 0)))) (me := mVar 5) (lw := [some (.ref L), some (.int (st.1 : Int)), some (.tup (st.2.map D.int)), some (.int (s : Int)), some (.int (b' : Int)), none]) (S := S) rfl (fun d => match d with | .int g => decide (0 < needB us b' g) | _ => false) (fun d => d) ((st.2 ++ [(s : Int)]).map D.int) [] (by simp; omega) fun d hd => by
    obtain ⟨g, hg, rfl⟩ := List.mem_map.mp hd
    obtain ⟨k, rfl, hk⟩ := all g hg
    refine ⟨_, rfl, ?_, fun _ => rfl⟩
    have := meth_run (m := m_Passes_cells) (qn := "cells") (mo := mVar 0) (ml := mCons (mVar 4) (mCons (mVar 5) (mNil))) (loc := [some (.ref L), some (.int (st.1 : Int)), some (.tup (st.2.map D.int)), some (.int (s : Int)), some (.int (b' : Int)), some (.int (k : Int))]) (ds := [.int (b' : Int), .int (k : Int)]) hi (by rw [← hF]; exact pf_cells) rfl rfl
    rw [cells_run hz hu h hk] at this
    generalize mMeth [(("Passes" : Str), m_Passes_cells)] "cells" (mVar 0) (mCons (mVar 4) (mCons (mVar 5) (mNil))) = M at this
    generalize st.2.map D.int = LD at this
    simp [this]
  have e : (((st.2 ++ [(s : Int)]).map D.int).filter (fun d => match d with | .int g => decide (0 < needB us b' g) | _ => false)).map (fun d => d) = ((behF us st s).2).map D.int := by
    rw [List.map_id', List.filter_map]
    unfold behF
    rw [← hb']
    rfl
  rw [e, List.nil_append] at lc
  have e1 : (behF us st s).1 = b' := hb'.symm
  show b_Passes_behind _ S = .rt (.tup [.int ((behF us st s).1 : Nat), .tup ((behF us st s).2.map D.int)]) S
  rw [e1]
  unfold b_Passes_behind
  generalize mMeth [(("Passes" : Str), m_Passes_cells)] "cells" (mVar 0) (mCons (mVar 4) (mCons (mVar 5) (mNil))) = M at lc
  generalize (behF us st s).2.map D.int = RD at lc
  rw [List.map_append] at lc
  have sm : (st.2.map D.int).length ≤ 999999 := by simp; omega
  generalize st.2.map D.int = LD at lc sm
  have lc' : lcGo (cellOk ⟨[], LD ++ [D.int (s : Int)]⟩) (mgName 5) (mB (mOp fGt M (mC (.int 0)))) (mVar 5) [some (.ref L), some (.int (st.1 : Int)), some (D.tup LD), some (.int (s : Int)), some (.int (b' : Int)), none] (LD ++ [D.int (s : Int)]) [] S = .ok RD S := lc
  have c' : cPow 1 (s : Int) = true := c
  simp only [Int.one_mul, Int.toNat_natCast] at eb
  simp [startL, c', eb, sm, wipeL, lc']
end

end Law

set_option Elab.async false
set_option linter.all false
set_option maxRecDepth 100000
set_option maxHeartbeats 2000000
namespace Law
open PySem PySem.Spec PyProof.Rows L2 Md
/-! ### finds, nexts -/
section
variable {n : Nat} {us : List T3} {q : Bool} {L : Nat} {S : Sto} {kn pk : List (D × D)}
theorem eq0_run {S : Sto} {kvs : List (D × D)} : eq0 (.ref S.length) .edc (S ++ [.dct kvs]) = some kvs.isEmpty := by
  unfold eq0 dctL
  simp
theorem pop_run {S : Sto} {kv : KV} {g : Int} : fPopD (.ref S.length) [.int g, .int 0] (S ++ [.dct (kv.map encK)]) = match lkI kv g with
    | some c => .ok (.int c) (S ++ [.dct ((kv.filter fun p => decide (p.1 ≠ g)).map encK)])
    | none => .ok (.int 0) (S ++ [.dct (kv.map encK)]) := by
  have e : (S ++ [Cell.dct (kv.map encK)])[S.length]? = some (.dct (kv.map encK)) := by simp
  unfold fPopD
  dsimp only
  rw [e]
  dsimp only
  rw [show keyD (D.int g) = some (.inl g) from rfl, need_some, lkD_enc, dropD_enc]
  cases lkI kv g with
  | none => rfl
  | some c =>
    show Out.ok (D.int c) ((S ++ [Cell.dct (kv.map encK)]).set S.length _) = _
    rw [set_end]
noncomputable abbrev fndBody : SD := (sCons (sIf (mB (mOp fEqD0 (mVar 4) (mEdc)))
    (sCons (sRet (mC (.bl true)))
    (sNil))
    (sNil))
    (sCons (sSet 6 (mMet "dict" fPopD (mVar 4) (mCons (mVar 5) (mCons (mC (.int 0)) (mNil)))))
    (sCons (sIf (mOr (mB (mOp fEq (mVar 6) (mC (.int 0)))) (mAnd (mB (mOp fLt (mVar 6) (mMeth [(("Passes" : Str), m_Passes_cells)] "cells" (mVar 0) (mCons (mVar 1) (mCons (mVar 5) (mNil)))))) (mB (mOp fNeD0 (mVar 4) (mEdc)))))
    (sCons (sRet (mC (.bl false)))
    (sNil))
    (sNil))
    (sNil))))
theorem finds_loop {b s : Nat} {LD : List D} (hz : us.length ≤ 1000) (hu : ∀ u ∈ us, 0 ≤ u.2.1) (h : PassAt n us q L S kn pk) : ∀ (l : List Int) (kv : KV) (t5 t6 : Option D), (∀ g ∈ l, g ∈ rangeI n) → (∀ p ∈ kv, p.2 ≠ 0) →
    (∃ kv', forGo (cellOk ⟨[], l.map D.int⟩) (mgName 5) fndBody (l.map D.int) [some (.ref L), some (.int (b : Int)), some (.tup LD), some (.int (s : Int)), some (.ref S.length), t5, t6] (S ++ [.dct (kv.map encK)]) = .rt (.bl (findsG (needB us b) kv l)) (S ++ [.dct kv'])) ∨
    ∃ (kv' : KV) (u5 u6 : Option D), forGo (cellOk ⟨[], l.map D.int⟩) (mgName 5) fndBody (l.map D.int) [some (.ref L), some (.int (b : Int)), some (.tup LD), some (.int (s : Int)), some (.ref S.length), t5, t6] (S ++ [.dct (kv.map encK)]) = .nx [some (.ref L), some (.int (b : Int)), some (.tup LD), some (.int (s : Int)), some (.ref S.length), u5, u6] (S ++ [.dct (kv'.map encK)]) ∧ findsG (needB us b) kv l = kv'.isEmpty := by
  intro l
  have ok : ∀ S', cellOk ⟨[], l.map D.int⟩ S' = true := fun _ => rfl
  obtain ⟨okf, hok⟩ : ∃ f, f = cellOk ⟨[], l.map D.int⟩ := ⟨_, rfl⟩
  rw [← hok]
  rw [← hok] at ok
  clear hok
  induction l with
  | nil =>
    intro kv t5 t6 _ _
    exact .inr ⟨kv, t5, t6, by show guardS (okf _) _ = _; rw [ok]; rfl, rfl⟩
  | cons g l ih =>
    intro kv t5 t6 hl h0
    have hgr := rangeI_mem.mp (hl g (by simp))
    obtain ⟨k, rfl⟩ : ∃ k : Nat, g = (k : Int) := ⟨g.toNat, by omega⟩
    have hk : k < n := by omega
    rw [List.map_cons]
    -- one turn
    have turn : ∀ kv', fndBody [some (.ref L), some (.int (b : Int)), some (.tup LD), some (.int (s : Int)), some (.ref S.length), some (.int (k : Int)), t6] (S ++ [.dct (kv.map encK)]) = kv' → forGo okf (mgName 5) fndBody (D.int (k : Int) :: l.map D.int) [some (.ref L), some (.int (b : Int)), some (.tup LD), some (.int (s : Int)), some (.ref S.length), t5, t6] (S ++ [.dct (kv.map encK)]) = loopS kv' (forGo okf (mgName 5) fndBody (l.map D.int)) := fun kv' e => by
      rw [← e]
      show guardS (okf _) _ = _
      rw [ok]; rfl
    have e0 : ∀ kvs, eq0 (.ref S.length) .edc (S ++ [.dct kvs]) = some kvs.isEmpty := fun _ => eq0_run
    have pr := pop_run (S := S) (kv := kv) (g := (k : Int))
    have mc : ∀ (kvs : List (D × D)) (t6 : Option D), mMeth [(("Passes" : Str), m_Passes_cells)] "cells" (mVar 0) (mCons (mVar 1) (mCons (mVar 5) (mNil))) [some (.ref L), some (.int (b : Int)), some (.tup LD), some (.int (s : Int)), some (.ref S.length), some (.int (k : Int)), t6] (S ++ [.dct kvs]) = .ok (.int (needB us b k)) (S ++ [.dct kvs]) := fun kvs t6 => by
      have h' : PassAt n us q L (S ++ [.dct kvs]) kn pk := h.app
      rw [meth_run (ds := [.int (b : Int), .int (k : Int)]) h'.inst pf_cells rfl rfl]
      exact cells_run hz hu h' hk
    have ty : ∀ kvs, tyIs (S ++ [.dct kvs]) (.ref S.length) "dict" = true := fun kvs => by unfold tyIs; simp
    have iz : ∀ x : Int, eqD (S ++ [Cell.dct []]) (.int x) (.int 0) = some (decide (x = 0)) := fun x => eqD_int
    by_cases he : kv = []
    · subst he
      left
      refine ⟨[], ?_⟩
      have : fndBody = fndBody := rfl
      rw [turn _ rfl]
      have e1 := e0 []
      simp [fEqD0, mEdc, e1, findsG, loopS]
    · have hne : (kv.map encK).isEmpty = false := by cases kv <;> simp_all
      have hnek : kv.isEmpty = false := by cases kv <;> simp_all
      have e1 := e0 (kv.map encK)
      rw [hne] at e1
      cases hlk : lkI kv (k : Int) with
      | none =>
        rw [hlk] at pr
        left
        refine ⟨kv.map encK, ?_⟩
        rw [turn _ rfl]
        have fg : findsG (needB us b) kv ((k : Int) :: l) = false := by rw [findsG, hnek, hlk]; rfl
        rw [fg]
        have ty1 := ty (kv.map encK)
        have fe : ∀ S', eqD S' (.int 0) (.int 0) = some true := fun S' => by rw [eqD_int]; rfl
        generalize kv.map encK = KK at *
        simp [-eqD_int, -r_meth, fEqD0, mEdc, e1, ty1, pr, fe, loopS]
      | some c =>
        rw [hlk] at pr
        have c0 : c ≠ 0 := h0 _ (lk_mem hlk)
        obtain ⟨kv2, hkv2⟩ : ∃ kv2, kv2 = kv.filter fun p => decide (p.1 ≠ (k : Int)) := ⟨_, rfl⟩
        rw [← hkv2] at pr
        have e2 := e0 (kv2.map encK)
        rw [List.isEmpty_map] at e2
        have ty1 := ty (kv.map encK)
        have fe : ∀ S', eqD S' (.int c) (.int 0) = some false := fun S' => by rw [eqD_int]; simp [c0]
        have mc2 := mc (kv2.map encK) (some (.int c))
        have fg : findsG (needB us b) kv ((k : Int) :: l) = if decide (c < needB us b k) && !kv2.isEmpty then false else findsG (needB us b) kv2 l := by rw [findsG, hnek, hlk, hkv2]; rfl
        have body : fndBody = fndBody := rfl
        by_cases hc : (decide (c < needB us b k) && !kv2.isEmpty) = true
        · left
          refine ⟨kv2.map encK, ?_⟩
          rw [turn _ rfl, fg, if_pos hc]
          rw [Bool.and_eq_true] at hc
          have hc1 : c < needB us b k := of_decide_eq_true hc.1
          have hc2 : kv2.isEmpty = false := by simpa using hc.2
          rw [hc2] at e2
          generalize kv.map encK = KK at *
          generalize kv2.map encK = KK2 at *
          simp [-eqD_int, -r_meth, fEqD0, fNeD0, mEdc, e1, ty1, pr, fe, loopS, mc2, hc1, e2]
        · rw [fg, if_neg hc]
          have step : fndBody [some (.ref L), some (.int (b : Int)), some (.tup LD), some (.int (s : Int)), some (.ref S.length), some (.int (k : Int)), t6] (S ++ [.dct (kv.map encK)]) = .nx [some (.ref L), some (.int (b : Int)), some (.tup LD), some (.int (s : Int)), some (.ref S.length), some (.int (k : Int)), some (.int c)] (S ++ [.dct (kv2.map encK)]) := by
            clear ih turn
            generalize kv.map encK = KK at *
            generalize kv2.map encK = KK2 at *
            by_cases hc1 : c < needB us b k
            · have hc2 : kv2.isEmpty = true := by
                cases z : kv2.isEmpty
                · exact absurd (by simp [hc1, z]) hc
                · rfl
              rw [hc2] at e2
              simp [-eqD_int, -r_meth, fEqD0, fNeD0, mEdc, e1, ty1, pr, fe, mc2, hc1, e2]
            · simp [-eqD_int, -r_meth, fEqD0, fNeD0, mEdc, e1, ty1, pr, fe, mc2, hc1]
          rw [turn _ rfl, step]
          exact ih kv2 _ _ (fun g hg => hl g (by simp [hg])) (fun p hp => h0 p (by rw [hkv2] at hp; exact (List.mem_filter.mp hp).1))
theorem finds_run {st : Stg} {s : Nat} (hz : us.length ≤ 1000) (hu : ∀ u ∈ us, 0 ≤ u.2.1) (h : PassAt n us q L S kn pk) (hl : LnOk n st.2) (hs : s < n) : m_Passes_finds [.ref L, .int (st.1 : Int), .tup (st.2.map D.int), .int (s : Int)] S = .ok (.bl (findsF us q st s)) S := by
  unfold m_Passes_finds
  have hi := h.inst
  have hw := h.wants s hs
  obtain ⟨kv, hkv⟩ : ∃ kv, kv = kvC (gvL us (s : Int)) := ⟨_, rfl⟩
  rw [← hkv] at hw
  have h0 : ∀ p ∈ kv, p.2 ≠ 0 := fun p hp => by
    have h1 := mem_lk (kvC_nd _) (show (p.1, p.2) ∈ kvC (gvL us (s : Int)) by rw [← hkv]; exact hp)
    rw [kvC_lk] at h1
    split at h1
    · rename_i hm
      injection h1 with h1
      have := List.count_pos_iff.mpr hm
      omega
    · cases h1
  obtain ⟨l, hll⟩ : ∃ l, l = (if q then st.2 else st.2.reverse) := ⟨_, rfl⟩
  have hlr : ∀ g ∈ l, g ∈ rangeI n := fun g hg => hl.2 g (by rw [hll] at hg; cases q <;> simpa using hg)
  have ff : findsF us q st s = findsG (needB us st.1) kv l := by unfold findsF; rw [hkv, hll]
  have loop := finds_loop (b := st.1) (s := s) (LD := st.2.map D.int) hz hu h l kv none none hlr h0
  rw [← ff] at loop
  have e1 : sSet 4 (mCall fDict (mCons (mOp fIx (mFld [("Passes" : Str)] "wants" (mVar 0)) (mVar 3)) (mNil))) (startL 7 [.ref L, .int (st.1 : Int), .tup (st.2.map D.int), .int (s : Int)]) S = .nx [some (.ref L), some (.int (st.1 : Int)), some (.tup (st.2.map D.int)), some (.int (s : Int)), some (.ref S.length), none, none] (S ++ [.dct (kv.map encK)]) := by
    generalize hF : PFs n q (refsL (L + 1) n) (refsL (L + 1 + n) n) (.ref (L + 1 + 2 * n)) (.ref (L + 2 + 2 * n)) = F at hi
    have lk : List.lookup ("wants" : Str) F = some (.lst (refsL (L + 1 + n) n)) := by rw [← hF]; exact pf_wants
    have ra : ∀ S', ixD S' (.lst (refsL (L + 1 + n) n)) (.int (s : Int)) = some (.ref (L + 1 + n + s)) := fun S' => refs_at hs
    have hd : dctL S (L + 1 + n + s) = some (kv.map encK) := by unfold dctL; rw [hw]
    generalize refsL (L + 1 + n) n = R at ra lk
    generalize kv.map encK = KK at *
    generalize st.2.map D.int = LD at *
    simp [startL, hi, lk, ra, fDict, hd]
  have e2 : ∀ ms, sFor (mSeq (mIf (mTru (mFld [("Passes" : Str)] "is_queue" (mVar 0))) (mVar 2) (mRevG (mVar 2)))) (mgName 5) ms [some (.ref L), some (.int (st.1 : Int)), some (.tup (st.2.map D.int)), some (.int (s : Int)), some (.ref S.length), none, none] (S ++ [.dct (kv.map encK)]) = forGo (cellOk ⟨[], l.map D.int⟩) (mgName 5) ms (l.map D.int) [some (.ref L), some (.int (st.1 : Int)), some (.tup (st.2.map D.int)), some (.int (s : Int)), some (.ref S.length), none, none] (S ++ [.dct (kv.map encK)]) := fun ms => by
    refine sFor_nx (src := ⟨[], l.map D.int⟩) ?_
    have hi2 : (S ++ [Cell.dct (kv.map encK)])[L]? = _ := (h.app (X := [Cell.dct (kv.map encK)])).inst
    generalize hF : PFs n q (refsL (L + 1) n) (refsL (L + 1 + n) n) (.ref (L + 1 + 2 * n)) (.ref (L + 2 + 2 * n)) = F at hi2
    have lk : List.lookup ("is_queue" : Str) F = some (.bl q) := by rw [← hF]; exact pf_queue
    have el : l.map D.int = if q then st.2.map D.int else (st.2.map D.int).reverse := by rw [hll]; cases q <;> simp
    rw [el]
    generalize kv.map encK = KK at *
    generalize st.2.map D.int = LD at *
    cases q <;> simp [hi2, lk, truD, tupOf]
  rcases loop with ⟨kv', h1⟩ | ⟨kv', u5, u6, h1, h2⟩
  · refine def_pure rfl ⟨_, _, (sCons_nx e1).trans (sCons_rt ((e2 _).trans h1)), by simp, thaw_ok rfl⟩
  · refine def_pure rfl ⟨.bl (findsF us q st s), S ++ [.dct (kv'.map encK)], (sCons_nx e1).trans ((sCons_nx ((e2 _).trans h1)).trans ?_), by simp, thaw_ok rfl⟩
    rw [h2]
    have e0 := eq0_run (S := S) (kvs := kv'.map encK)
    rw [List.isEmpty_map] at e0
    generalize kv'.map encK = KK at *
    simp [fEqD0, mEdc, e0]
theorem lnok_app {l : List Int} {s : Int} (h : LnOk n l) (hs : s ∈ rangeI n) : ∀ g ∈ l ++ [s], g ∈ rangeI n := fun g hg => by
  rcases List.mem_append.mp hg with hg | hg
  · exact h.2 g hg
  · rw [show g = s by simpa using hg]; exact hs
theorem nexts_run {st : Stg} (hn : n ≤ 10) (hz : us.length ≤ 1000) (hu : ∀ u ∈ us, 0 ≤ u.2.1) (h : PassAt n us q L S kn pk) (hl : LnOk n st.2) : m_Passes_nexts [.ref L, .int (st.1 : Int), .tup (st.2.map D.int)] S = .ok (.lst ((nextF n us q st).map fun s => D.tup [.int s, stD (behF us st s)])) S := by
  unfold m_Passes_nexts
  have hi := h.inst
  generalize hF : PFs n q (refsL (L + 1) n) (refsL (L + 1 + n) n) (.ref (L + 1 + 2 * n)) (.ref (L + 2 + 2 * n)) = F at hi
  have okR : okL ((nextF n us q st).map fun s => D.tup [.int s, stD (behF us st s)]) = true := okL_map fun s _ => by
    show okL [D.int s, .tup [.int _, .tup _]] = true
    simp [okL, okD, okL_ints]
  refine def_pure rfl ⟨.lst ((nextF n us q st).map fun s => D.tup [.int s, stD (behF us st s)]), S, ?_, by simp, thaw_ok (okD_refs (by show okL _ = true; exact okR))⟩
  have lk : List.lookup ("many" : Str) F = some (.int (n : Int)) := by rw [← hF]; exact pf_many
  have cell : ∀ g ∈ rangeI n, ∃ k : Nat, g = (k : Int) ∧ k < n := fun g hg => by
    have := rangeI_mem.mp hg
    exact ⟨g.toNat, by omega, by omega⟩
  have l1 := lc_pure (ok := cellOk ⟨[], (rangeI n).map D.int⟩) (mg := mgName 4) (mt := mAnd (mB (mOp fEq (mOp fBand (mOp fShr (mVar 1) (mVar 4)) (mC (.int 1))) (mC (.int 0)))) (mTru (mMeth [(("Passes" : Str), m_Passes_finds)] "finds" (mVar 0) (mCons (mVar 1) (mCons (mVar 2) (mCons (mVar 4) (mNil))))))) (me := mVar 4) (lw := [some (.ref L), some (.int (st.1 : Int)), some (.tup (st.2.map D.int)), none, none]) (S := S) rfl
    (fun d => match d with | .int s => !inB st.1 s && findsF us q st s | _ => false) (fun d => d) ((rangeI n).map D.int) [] (by simp; omega) fun d hd => by
    obtain ⟨g, hg, rfl⟩ := List.mem_map.mp hd
    obtain ⟨k, rfl, hk⟩ := cell g hg
    refine ⟨_, rfl, ?_, fun _ => rfl⟩
    have m1 := meth_run (m := m_Passes_finds) (qn := "finds") (mo := mVar 0) (ml := mCons (mVar 1) (mCons (mVar 2) (mCons (mVar 4) (mNil)))) (loc := [some (.ref L), some (.int (st.1 : Int)), some (.tup (st.2.map D.int)), none, some (.int (k : Int))]) (ds := [.int (st.1 : Int), .tup (st.2.map D.int), .int (k : Int)]) hi (by rw [← hF]; exact pf_finds) rfl rfl
    rw [finds_run hz hu h hl hk] at m1
    have eb : ∀ S, eqD S (.int (Builtin.bitAnd ((st.1 : Int) / 2 ^ k) 1)) (.int 0) = some (!inB st.1 (k : Int)) := fun S => bit0 (b := st.1) (t := (k : Int)) (by omega)
    generalize st.2.map D.int = LD at *
    cases z : inB st.1 (k : Int) with
    | true => rw [z] at eb; simp [-eqD_int, -r_meth, eb, z]
    | false => rw [z] at eb; simp [-eqD_int, -r_meth, eb, m1, truD, z]
  have e1 : (((rangeI n).map D.int).filter (fun d => match d with | .int s => !inB st.1 s && findsF us q st s | _ => false)).map (fun d => d) = (nextF n us q st).map D.int := by
    rw [List.map_id', List.filter_map]
    rfl
  rw [e1, List.nil_append] at l1
  have nl : (nextF n us q st).length ≤ n := by
    have := (List.filter_sublist (l := rangeI n) (p := fun s => !inB st.1 s && findsF us q st s)).length_le
    rw [rangeI_len] at this
    exact this
  have l2 := lc_map (ok := cellOk ⟨[], (nextF n us q st).map D.int⟩) (mg := mgName 4) (me := mTup (mCons (mVar 4) (mCons (mMeth [(("Passes" : Str), m_Passes_behind)] "behind" (mVar 0) (mCons (mVar 1) (mCons (mVar 2) (mCons (mVar 4) (mNil))))) (mNil)))) (lw := [some (.ref L), some (.int (st.1 : Int)), some (.tup (st.2.map D.int)), some (.lst ((nextF n us q st).map D.int)), none]) (S := S) rfl
    (fun d => match d with | .int s => D.tup [.int s, stD (behF us st s)] | d => d) ((nextF n us q st).map D.int) (by simp; omega) fun d hd => by
    obtain ⟨g, hg, rfl⟩ := List.mem_map.mp hd
    obtain ⟨k, rfl, hk⟩ := cell g (List.mem_filter.mp hg).1
    refine ⟨_, rfl, ?_⟩
    have m1 := meth_run (m := m_Passes_behind) (qn := "behind") (mo := mVar 0) (ml := mCons (mVar 1) (mCons (mVar 2) (mCons (mVar 4) (mNil)))) (loc := [some (.ref L), some (.int (st.1 : Int)), some (.tup (st.2.map D.int)), some (.lst ((nextF n us q st).map D.int)), some (.int (k : Int))]) (ds := [.int (st.1 : Int), .tup (st.2.map D.int), .int (k : Int)]) hi (by rw [← hF]; exact pf_behind) rfl rfl
    rw [behind_run hn hz hu h hl hk] at m1
    generalize st.2.map D.int = LD at *
    generalize (nextF n us q st).map D.int = ND at *
    simp [-r_meth, m1]
  have e2 : ((nextF n us q st).map D.int).map (fun d => match d with | .int s => D.tup [.int s, stD (behF us st s)] | d => d) = (nextF n us q st).map fun s => D.tup [.int s, stD (behF us st s)] := by
    rw [List.map_map]; rfl
  rw [e2] at l2
  have hb : bnd62 (n : Int) = true := bnd_small (by omega) (by omega)
  have rg : rgD 0 n = (rangeI n).map D.int := rgD_range
  have c1 : sSet 3 (mLcF finL (mRng1 (mCons (mFld [("Passes" : Str)] "many" (mVar 0)) (mNil))) (mgName 4) (mAnd (mB (mOp fEq (mOp fBand (mOp fShr (mVar 1) (mVar 4)) (mC (.int 1))) (mC (.int 0)))) (mTru (mMeth [(("Passes" : Str), m_Passes_finds)] "finds" (mVar 0) (mCons (mVar 1) (mCons (mVar 2) (mCons (mVar 4) (mNil))))))) (mVar 4) [4]) (startL 5 [.ref L, .int (st.1 : Int), .tup (st.2.map D.int)]) S = .nx [some (.ref L), some (.int (st.1 : Int)), some (.tup (st.2.map D.int)), some (.lst ((nextF n us q st).map D.int)), none] S := by
    generalize mAnd (mB (mOp fEq (mOp fBand (mOp fShr (mVar 1) (mVar 4)) (mC (.int 1))) (mC (.int 0)))) (mTru (mMeth [(("Passes" : Str), m_Passes_finds)] "finds" (mVar 0) (mCons (mVar 1) (mCons (mVar 2) (mCons (mVar 4) (mNil)))))) = MT at *
    generalize st.2.map D.int = LD at *
    generalize (nextF n us q st).map D.int = ND at *
    generalize (rangeI n).map D.int = RI at *
    simp [startL, hi, lk, hb, rg, wipeL, l1]
  refine (sCons_nx c1).trans (sCons_rt ?_)
  generalize ((nextF n us q st).map fun s => D.tup [.int s, stD (behF us st s)]) = RD at *
  generalize mTup (mCons (mVar 4) (mCons (mMeth [(("Passes" : Str), m_Passes_behind)] "behind" (mVar 0) (mCons (mVar 1) (mCons (mVar 2) (mCons (mVar 4) (mNil))))) (mNil))) = ME at *
  generalize st.2.map D.int = LD at *
  generalize (nextF n us q st).map D.int = ND at *
  simp [wipeL, l2]
end

end Law

set_option Elab.async false
set_option linter.all false
set_option maxRecDepth 100000
set_option maxHeartbeats 2000000
namespace Law
open PySem PySem.Spec PyProof.Rows L2 Md
/-! ### ways to the end, their heights -/
theorem filt_lt {p : Int → Bool} {s : Int} : ∀ {l : List Int}, l.Nodup → s ∈ l → p s = true → (l.filter p).length = (l.filter fun t => p t && !decide (t = s)).length + 1
  | [], _, h, _ => by cases h
  | x :: l, nd, h, hp => by
    obtain ⟨n1, n2⟩ := List.nodup_cons.mp nd
    rw [List.filter_cons, List.filter_cons]
    by_cases e : x = s
    · subst e
      have : (l.filter fun t => p t && !decide (t = x)) = l.filter p := List.filter_congr fun t ht => by
        have : t ≠ x := fun z => n1 (z ▸ ht)
        simp [this]
      rw [this]
      simp [hp]
    · have hs : s ∈ l := (List.mem_cons.mp h).resolve_left fun z => e z.symm
      have ih := filt_lt (p := p) n2 hs hp
      cases hx : p x <;> simp [hx, e, ih]
theorem rem_set {n b : Nat} {s : Int} (hs : s ∈ rangeI n) (hb : inB b s = false) : remF n b = remF n (setB b s) + 1 := by
  have s0 := (rangeI_mem.mp hs).1
  unfold remF
  rw [filt_lt (s := s) rangeI_nd hs (by rw [hb]; rfl)]
  congr 2
  apply List.filter_congr
  intro t ht
  rw [inB_set s0 (rangeI_mem.mp ht).1]
  cases inB b t <;> simp
structure StOk (n : Nat) (st : Stg) : Prop where
  b : st.1 < 2 ^ n
  l : LnOk n st.2
theorem rem_zero {n b : Nat} (hb : b < 2 ^ n) : remF n b = 0 ↔ b = 2 ^ n - 1 := by
  unfold remF
  rw [List.length_eq_zero_iff, List.filter_eq_nil_iff]
  constructor
  · intro h
    apply Nat.eq_of_testBit_eq
    intro i
    rw [Nat.testBit_two_pow_sub_one]
    by_cases hi : i < n
    · have := h (i : Int) (rangeI_mem.mpr (by omega))
      unfold inB at this
      rw [Int.toNat_natCast] at this
      simpa [hi] using this
    · rw [Nat.testBit_lt_two_pow (Nat.lt_of_lt_of_le hb (Nat.pow_le_pow_right (by decide) (by omega)))]
      simp [hi]
  · rintro rfl t ht
    have := rangeI_mem.mp ht
    unfold inB
    rw [Nat.testBit_two_pow_sub_one]
    have : t.toNat < n := by omega
    simp [this]
theorem StOk.beh {n : Nat} {us : List T3} {st : Stg} {s : Int} (h : StOk n st) (hz : st.2.length + 1 ≤ 1000) (hs : s ∈ rangeI n) : StOk n (behF us st s) := by
  have hr := rangeI_mem.mp hs
  refine ⟨?_, ?_, fun g hg => ?_⟩
  · show setB st.1 s < 2 ^ n
    unfold setB
    refine Nat.or_lt_two_pow h.b ?_
    rw [Nat.one_shiftLeft]
    exact Nat.pow_lt_pow_right (by decide) (by omega)
  · show ((st.2 ++ [s]).filter _).length ≤ 1000
    refine Nat.le_trans List.filter_sublist.length_le ?_
    simp; omega
  · exact lnok_app h.l hs g (List.mem_filter.mp hg).1
def compF (n : Nat) (us : List T3) (q : Bool) : Nat → Stg → List (List Int)
  | 0, _ => [[]]
  | k + 1, st => (nextF n us q st).flatMap fun s => (compF n us q k (behF us st s)).map (s :: ·)
abbrev compS (n : Nat) (us : List T3) (q : Bool) (st : Stg) : List (List Int) := compF n us q (remF n st.1) st
theorem next_mem {n : Nat} {us : List T3} {q : Bool} {st : Stg} {s : Int} (h : s ∈ nextF n us q st) : s ∈ rangeI n ∧ inB st.1 s = false ∧ findsF us q st s = true := by
  obtain ⟨h1, h2⟩ := List.mem_filter.mp h
  rw [Bool.and_eq_true] at h2
  exact ⟨h1, by simpa using h2.1, h2.2⟩
theorem comp_step {n : Nat} {us : List T3} {q : Bool} {st : Stg} {k : Nat} (h : remF n st.1 = k + 1) : compS n us q st = (nextF n us q st).flatMap fun s => (compS n us q (behF us st s)).map (s :: ·) := by
  show compF n us q (remF n st.1) st = _
  rw [h]
  show ((nextF n us q st).flatMap fun s => (compF n us q k (behF us st s)).map (s :: ·)) = _
  have f : ∀ {α β : Type} {l : List α} {f g : α → List β}, (∀ x ∈ l, f x = g x) → l.flatMap f = l.flatMap g := fun {α β l f g} e => by
    induction l with
    | nil => rfl
    | cons x l ih => rw [List.flatMap_cons, List.flatMap_cons, e x (by simp), ih fun y hy => e y (by simp [hy])]
  refine f fun s hs => ?_
  obtain ⟨h1, h2, _⟩ := next_mem hs
  have := rem_set h1 h2
  show _ = (compF n us q (remF n (behF us st s).1) (behF us st s)).map (s :: ·)
  rw [show remF n (behF us st s).1 = k by show remF n (setB st.1 s) = k; omega]
def topF (us : List T3) : Stg → List Int → Int
  | _, [] => 0
  | st, s :: r => max (topF us (behF us st s) r) (heiF us (behF us st s))
theorem top_nn {us : List T3} : ∀ (r : List Int) (st : Stg), 0 ≤ topF us st r
  | [], _ => Int.le_refl 0
  | s :: r, st => by
    have := top_nn (us := us) r (behF us st s)
    show 0 ≤ max _ _
    omega
def exF (l : Bool) : List Int → Int
  | [] => -1
  | x :: r => if l then r.foldl min x else r.foldl max x
def RL (l : Bool) (a b : Int) : Prop := if l then a ≤ b else b ≤ a
theorem foldl_min' : ∀ (r : List Int) (x : Int), (r.foldl min x = x ∨ r.foldl min x ∈ r) ∧ r.foldl min x ≤ x ∧ ∀ y ∈ r, r.foldl min x ≤ y
  | [], x => ⟨.inl rfl, Int.le_refl _, fun y hy => by cases hy⟩
  | a :: r, x => by
    obtain ⟨h1, h2, h3⟩ := foldl_min' r (min x a)
    rw [List.foldl_cons]
    refine ⟨?_, by omega, fun y hy => ?_⟩
    · rcases h1 with h1 | h1
      · rw [h1]
        rcases Int.le_total x a with z | z
        · left; omega
        · right; rw [show min x a = a by omega]; simp
      · right; exact List.mem_cons_of_mem _ h1
    · rcases List.mem_cons.mp hy with rfl | hy
      · omega
      · exact h3 y hy
theorem foldl_max' : ∀ (r : List Int) (x : Int), (r.foldl max x = x ∨ r.foldl max x ∈ r) ∧ x ≤ r.foldl max x ∧ ∀ y ∈ r, y ≤ r.foldl max x
  | [], x => ⟨.inl rfl, Int.le_refl _, fun y hy => by cases hy⟩
  | a :: r, x => by
    obtain ⟨h1, h2, h3⟩ := foldl_max' r (max x a)
    rw [List.foldl_cons]
    refine ⟨?_, by omega, fun y hy => ?_⟩
    · rcases h1 with h1 | h1
      · rw [h1]
        rcases Int.le_total x a with z | z
        · right; rw [show max x a = a by omega]; simp
        · left; omega
      · right; exact List.mem_cons_of_mem _ h1
    · rcases List.mem_cons.mp hy with rfl | hy
      · omega
      · exact h3 y hy
theorem ex_spec {l : Bool} {xs : List Int} (h : xs ≠ []) : exF l xs ∈ xs ∧ ∀ y ∈ xs, RL l (exF l xs) y := by
  cases xs with
  | nil => exact absurd rfl h
  | cons x r =>
    cases l with
    | true =>
      obtain ⟨h1, h2, h3⟩ := foldl_min' r x
      refine ⟨?_, fun y hy => ?_⟩
      · show r.foldl min x ∈ x :: r
        rcases h1 with h1 | h1
        · rw [h1]; simp
        · exact List.mem_cons_of_mem _ h1
      · show r.foldl min x ≤ y
        rcases List.mem_cons.mp hy with rfl | hy
        · exact h2
        · exact h3 y hy
    | false =>
      obtain ⟨h1, h2, h3⟩ := foldl_max' r x
      refine ⟨?_, fun y hy => ?_⟩
      · show r.foldl max x ∈ x :: r
        rcases h1 with h1 | h1
        · rw [h1]; simp
        · exact List.mem_cons_of_mem _ h1
      · show y ≤ r.foldl max x
        rcases List.mem_cons.mp hy with rfl | hy
        · exact h2
        · exact h3 y hy
theorem RL.anti {l : Bool} {a b : Int} (h : RL l a b) (k : RL l b a) : a = b := by
  unfold RL at h k
  cases l
  · simp at h k; omega
  · simp at h k; omega
theorem RL.max {l : Bool} {a b : Int} (h : RL l a b) (c : Int) : RL l (max a c) (max b c) := by
  unfold RL at h ⊢
  cases l
  · simp at h ⊢; omega
  · simp at h ⊢; omega
theorem ex_flat {α : Type} {l : Bool} {A : α → List Int} {h : α → Int} {ss : List α} (nn : ∀ s ∈ ss, ∀ a ∈ A s, 0 ≤ a) :
    exF l (ss.flatMap fun s => (A s).map fun a => max a (h s)) = exF l (ss.filterMap fun s => if 0 ≤ exF l (A s) then some (max (exF l (A s)) (h s)) else none) := by
  have pos : ∀ s ∈ ss, (0 ≤ exF l (A s) ↔ A s ≠ []) := fun s hs => by
    constructor
    · intro z e; rw [e] at z; simp [exF] at z
    · intro z; exact nn s hs _ (ex_spec z).1
  obtain ⟨B, hB⟩ : ∃ B, B = ss.flatMap fun s => (A s).map fun a => max a (h s) := ⟨_, rfl⟩
  obtain ⟨C, hC⟩ : ∃ C, C = ss.filterMap fun s => if 0 ≤ exF l (A s) then some (max (exF l (A s)) (h s)) else none := ⟨_, rfl⟩
  rw [← hB, ← hC]
  have mB : ∀ x, x ∈ B ↔ ∃ s ∈ ss, ∃ a ∈ A s, max a (h s) = x := fun x => by
    rw [hB, List.mem_flatMap]
    constructor
    · rintro ⟨s, hs, hx⟩
      obtain ⟨a, ha, e⟩ := List.mem_map.mp hx
      exact ⟨s, hs, a, ha, e⟩
    · rintro ⟨s, hs, a, ha, e⟩
      exact ⟨s, hs, List.mem_map.mpr ⟨a, ha, e⟩⟩
  have mC : ∀ x, x ∈ C ↔ ∃ s ∈ ss, A s ≠ [] ∧ max (exF l (A s)) (h s) = x := fun x => by
    rw [hC, List.mem_filterMap]
    constructor
    · rintro ⟨s, hs, e⟩
      split at e
      · rename_i z
        exact ⟨s, hs, (pos s hs).mp z, Option.some.inj e⟩
      · cases e
    · rintro ⟨s, hs, z, e⟩
      exact ⟨s, hs, by rw [if_pos ((pos s hs).mpr z), e]⟩
  by_cases hb : B = []
  · have : C = [] := List.eq_nil_iff_forall_not_mem.mpr fun x hx => by
      obtain ⟨s, hs, z, e⟩ := (mC x).mp hx
      have : max (exF l (A s)) (h s) ∈ B := (mB _).mpr ⟨s, hs, _, (ex_spec z).1, rfl⟩
      rw [hb] at this
      cases this
    rw [hb, this]
  · obtain ⟨b1, b2⟩ := ex_spec (l := l) hb
    have hc : C ≠ [] := fun z => by
      obtain ⟨s, hs, a, ha, e⟩ := (mB _).mp b1
      have : max (exF l (A s)) (h s) ∈ C := (mC _).mpr ⟨s, hs, List.ne_nil_of_mem ha, rfl⟩
      rw [z] at this
      cases this
    obtain ⟨c1, c2⟩ := ex_spec (l := l) hc
    have e1 : RL l (exF l B) (exF l C) := b2 _ (by
      obtain ⟨s, hs, z, e⟩ := (mC _).mp c1
      exact (mB _).mpr ⟨s, hs, _, (ex_spec z).1, e⟩)
    have e2 : RL l (exF l C) (exF l B) := by
      obtain ⟨s, hs, a, ha, e⟩ := (mB _).mp b1
      have z := List.ne_nil_of_mem ha
      have k1 := c2 _ ((mC _).mpr ⟨s, hs, z, rfl⟩)
      have k2 := ((ex_spec (l := l) z).2 a ha).max (h s)
      rw [e] at k2
      unfold RL at k1 k2 ⊢
      cases l
      · simp at k1 k2 ⊢; omega
      · simp at k1 k2 ⊢; omega
    exact e1.anti e2
def peakV (n : Nat) (us : List T3) (q : Bool) (l : Bool) (st : Stg) : Int := exF l ((compS n us q st).map (topF us st))
def foundF (n : Nat) (us : List T3) (q : Bool) (l : Bool) (st : Stg) : List Int := (nextF n us q st).filterMap fun s => if 0 ≤ peakV n us q l (behF us st s) then some (max (peakV n us q l (behF us st s)) (heiF us (behF us st s))) else none
theorem peak_zero {n : Nat} {us : List T3} {q l : Bool} {st : Stg} (h : remF n st.1 = 0) : peakV n us q l st = 0 := by
  unfold peakV compS
  rw [h]
  cases l <;> rfl
theorem peak_step {n : Nat} {us : List T3} {q l : Bool} {st : Stg} {k : Nat} (h : remF n st.1 = k + 1) : peakV n us q l st = exF l (foundF n us q l st) := by
  unfold foundF peakV
  rw [← ex_flat (A := fun s => (compS n us q (behF us st s)).map (topF us (behF us st s))) (h := fun s => heiF us (behF us st s)) fun s _ a ha => by
    obtain ⟨r, _, rfl⟩ := List.mem_map.mp ha
    exact top_nn r _, comp_step h, List.map_flatMap]
  congr 1
  congr 1
  funext s
  rw [List.map_map, List.map_map]
  rfl
abbrev encR (row : List Int) : D := .tup (row.map D.int)

end Law

set_option Elab.async false
set_option linter.all false
set_option maxRecDepth 100000
set_option maxHeartbeats 2000000
namespace Law
open PySem PySem.Spec PyProof.Rows L2 Md
/-! ### what is known already -/
def keyP (st : Stg) (l : Bool) : D := .tup [.int (st.1 : Int), .tup (st.2.map D.int), .bl l]
def qP (st : Stg) (l : Bool) : NestedKey := .tup [.num (st.1 : Int), .tup (st.2.map .num), .num (if l = true then 1 else 0)]
theorem keysN_ints : ∀ ns : List Int, keysN (ns.map D.int) = some (ns.map .num)
  | [] => rfl
  | x :: ns => by
    rw [List.map_cons, keysN, keysN_ints ns]; rfl
theorem depth_ints : ∀ ns : List Int, NestedKey.depthAll (ns.map .num) = 0
  | [] => rfl
  | x :: ns => by rw [List.map_cons, NestedKey.depthAll, depth_ints ns]; rfl
theorem tkey_keyP {st : Stg} {l : Bool} : tkey (keyP st l) = some (qP st l) := by
  unfold keyP
  rw [tkey]
  have e : keysN [D.int (st.1 : Int), .tup (st.2.map D.int), .bl l] = some [.num (st.1 : Int), .tup (st.2.map .num), .num (if l = true then 1 else 0)] := by
    simp only [keysN, keyN, keysN_ints, Option.map_some]
  rw [e]
  show (if (NestedKey.tup _).depth ≤ 8 then _ else _) = _
  rw [if_pos]
  · rfl
  · simp [NestedKey.depth, NestedKey.depthAll, depth_ints]
theorem map_num_inj : ∀ {a b : List Int}, a.map NestedKey.num = b.map NestedKey.num → a = b
  | [], [], _ => rfl
  | [], _ :: _, h => by simp at h
  | _ :: _, [], h => by simp at h
  | x :: a, y :: b, h => by
    simp only [List.map_cons, List.cons.injEq, NestedKey.num.injEq] at h
    rw [h.1, map_num_inj h.2]
theorem qP_inj {st st' : Stg} {l l' : Bool} (h : qP st l = qP st' l') : st = st' ∧ l = l' := by
  unfold qP at h
  simp only [NestedKey.tup.injEq, List.cons.injEq, NestedKey.num.injEq, and_true] at h
  obtain ⟨h1, h2, h3⟩ := h
  refine ⟨Prod.ext (by omega) (map_num_inj h2), ?_⟩
  cases l <;> cases l' <;> simp_all
theorem okD_keyP {st : Stg} {l : Bool} : okD (keyP st l) = true := by
  unfold keyP
  simp [okD, okL, okL_ints]
def MemoP (n : Nat) (us : List T3) (q : Bool) (pk : List (D × D)) : Prop := ∀ e ∈ pk, ∃ st l, e = (keyP st l, D.int (peakV n us q l st))
section
variable {n : Nat} {us : List T3} {q : Bool} {pk : List (D × D)}
theorem MemoP.lk {st : Stg} {l : Bool} {v : D} (h : MemoP n us q pk) (e : lkN pk (qP st l) = some v) : v = .int (peakV n us q l st) := by
  unfold lkN at e
  obtain ⟨p, h1, rfl⟩ := Option.map_eq_some_iff.mp e
  have hk := List.find?_some h1
  simp only [decide_eq_true_eq] at hk
  obtain ⟨st', l', rfl⟩ := h p (List.mem_of_find?_eq_some h1)
  rw [show tkey (keyP st' l', D.int (peakV n us q l' st')).1 = tkey (keyP st' l') from rfl, tkey_keyP] at hk
  obtain ⟨rfl, rfl⟩ := qP_inj (Option.some.inj hk)
  rfl
theorem lk_some {q : NestedKey} {pk : List (D × D)} (h : ∃ p ∈ pk, tkey p.1 = some q) : ∃ v, lkN pk q = some v := by
  obtain ⟨p, hp, hk⟩ := h
  unfold lkN
  cases e : pk.find? fun p => decide (tkey p.1 = some q) with
  | none => exact absurd (decide_eq_true hk) (by simpa using List.find?_eq_none.mp e p hp)
  | some p => exact ⟨p.2, rfl⟩
theorem MemoP.put {st : Stg} {l : Bool} (h : MemoP n us q pk) : MemoP n us q (putN pk (keyP st l) (qP st l) (.int (peakV n us q l st))) ∧ (putN pk (keyP st l) (qP st l) (.int (peakV n us q l st))).length ≤ pk.length + 1 ∧
    lkN (putN pk (keyP st l) (qP st l) (.int (peakV n us q l st))) (qP st l) = some (.int (peakV n us q l st)) := by
  have m : MemoP n us q (putN pk (keyP st l) (qP st l) (.int (peakV n us q l st))) := by
    unfold putN
    split
    · intro e he
      obtain ⟨p, hp, rfl⟩ := List.mem_map.mp he
      obtain ⟨st', l', rfl⟩ := h p hp
      by_cases z : tkey (keyP st' l') = some (qP st l)
      · rw [if_pos z]
        rw [tkey_keyP] at z
        obtain ⟨rfl, rfl⟩ := qP_inj (Option.some.inj z)
        exact ⟨_, _, rfl⟩
      · rw [if_neg z]; exact ⟨_, _, rfl⟩
    · intro e he
      rcases List.mem_append.mp he with he | he
      · exact h e he
      · exact ⟨st, l, by simpa using he⟩
  refine ⟨m, ?_, ?_⟩
  · unfold putN
    split <;> simp
  · obtain ⟨v, hv⟩ : ∃ v, lkN (putN pk (keyP st l) (qP st l) (.int (peakV n us q l st))) (qP st l) = some v := by
      refine lk_some ?_
      unfold putN
      split
      · rename_i hs
        obtain ⟨v, hv⟩ := Option.isSome_iff_exists.mp hs
        unfold lkN at hv
        obtain ⟨p, h1, _⟩ := Option.map_eq_some_iff.mp hv
        have hk := List.find?_some h1
        simp only [decide_eq_true_eq] at hk
        refine ⟨_, List.mem_map.mpr ⟨p, List.mem_of_find?_eq_some h1, rfl⟩, ?_⟩
        rw [if_pos hk]; exact hk
      · exact ⟨(keyP st l, .int (peakV n us q l st)), by simp, tkey_keyP⟩
    rw [hv, m.lk hv]
theorem memo_cell (h : MemoP n us q pk) (m : Nat) : cellB m (.dcn pk) = true := by
  show refsKN m pk = true
  induction pk with
  | nil => rfl
  | cons e r ih =>
    obtain ⟨st, l, rfl⟩ := h e (by simp)
    show (refsB m (keyP st l) && (refsB m (D.int _) && refsKN m r)) = true
    rw [okD_refs okD_keyP, ih fun e he => h e (by simp [he])]
    rfl
end
theorem cutC_set {n P : Nat} {c c' : Cell} : ∀ {S : List Cell}, cellB n c' = true → cutC n S (S.set P c') = true
  | [], _ => by simp [cutC]
  | a :: S, h => by
    cases P with
    | zero =>
      show ((decide (a = c') || cellB n c') && cutC n S S) = true
      rw [h, cutC_self]; simp
    | succ P =>
      show ((decide (a = a) || cellB n a) && cutC n S (S.set P c')) = true
      rw [cutC_set (c := c) h]; simp
theorem def_chg {k p : Nat} {ms : SD} {ds : List D} {S S1 X : Sto} {d : D} (hp : ds.length = p) (hl : S1.length = S.length) (hc : cutC S.length S S1 = true) (h : ms (startL k ds) S = .rt d (S1 ++ X)) (hd : thaw 3 S.length (S1 ++ X) d = some d) : mDef k p ms ds S = .ok d S1 := by
  unfold mDef
  rw [if_pos hp, h]
  show need (thaw 3 S.length (S1 ++ X) d) (fun d' => guardO (cutC S.length S ((S1 ++ X).take S.length)) (.ok d' ((S1 ++ X).take S.length))) = _
  rw [hd, need_some, ← hl, List.take_left, hl, hc]; rfl
theorem eqR_nil {S : Sto} {l : Nat} {ns : List Int} (h : S[l]? = some (.lst (ns.map D.int))) : eqD S (.ref l) (.lst []) = some ns.isEmpty := by
  show eqD0 S (.ref l) (.lst []) = _
  have e : eqD S (.lst (ns.map D.int)) (.lst []) = some (ns.map D.int).isEmpty := eqD_nilL okL_ints (nbL_map fun _ _ => rfl) (Nat.le_trans (depL_map (n := 0) fun _ _ => Nat.le_refl _) (by decide))
  rw [List.isEmpty_map] at e
  rw [← e]
  show eqD0 S (.ref l) (.lst []) = eqD0 S (.lst (ns.map D.int)) (.lst [])
  unfold eqD0
  congr 1
  show (lstOf S (.ref l)).bind (fun ds => (pyDL ds).map PyData.list) = pyD (.lst (ns.map D.int))
  rw [show lstOf S (.ref l) = some (ns.map D.int) by unfold lstOf; simp [h]]
  show (pyDL (ns.map D.int)).map PyData.list = pyD (.lst (ns.map D.int))
  rw [pyD]
def entN : Nat → Nat
  | 0 => 0
  | k + 1 => 1 + (k + 1) * entN k

end Law

set_option Elab.async false
set_option linter.all false
set_option maxRecDepth 100000
set_option maxHeartbeats 2000000
namespace Law
open PySem PySem.Spec PyProof.Rows L2 Md
theorem ties_run {n : Nat} {w : Web} {S : Sto} (hn : n ≤ 1000) (hw : WebOk n w) : m_ties [encW w] S = .ok (.tup (duesD w)) S := by
  unfold m_ties
  refine def_pure rfl ?_
  let I : Nat → Md.Loc → Sto → Prop := fun k l S' => ∃ a b c d e, l = [some (encW w), some (.ref S.length), a, b, c, d, e] ∧ S' = S ++ [.lst ((tiesT (w.take k)).map encT)]
  have hl : (enumD (w.map encS)).length = w.length := by simp [enumD]
  have loop := for_to (ok := cellOk ⟨[], enumD (w.map encS)⟩) (mg := mgTup 2 (mgCons (mgName 2) (mgCons (mgTup 2 (mgCons (mgName 3) (mgCons (mgName 4) (mgNil)))) (mgNil))))
    (ms := sCons (sExpr (mMet "list" fExtend (mVar 1) (mCons (mLcF finL (mEnumA (mCons (mVar 4) (mNil))) (mgTup 2 (mgCons (mgName 5) (mgCons (mgName 6) (mgNil)))) (mYes) (mTup (mCons (mVar 6) (mCons (mVar 2) (mCons (mVar 5) (mNil))))) [5, 6]) (mNil)))) (sNil))
    (enumD (w.map encS)) I (loc := [some (encW w), some (.ref S.length), none, none, none, none, none]) (S := S ++ [.lst []]) ⟨none, none, none, none, none, rfl, by simp [tiesT]⟩ (fun _ _ _ _ _ => rfl) (fun k d l S' hk p => by
      obtain ⟨a, b, c, d', e, rfl, rfl⟩ := p
      obtain ⟨x, hx, rfl⟩ := enumD_get hk
      rw [List.getElem?_map] at hx
      obtain ⟨p, hp, rfl⟩ := Option.map_eq_some_iff.mp hx
      obtain ⟨hkw, rfl⟩ := List.getElem?_eq_some_iff.mp hp
      refine ⟨[some (encW w), some (.ref S.length), some (.int (k : Nat)), some w[k].1, some (.tup (w[k].2.map D.int)), d', e], rfl, ?_⟩
      have ok := hw.2.1 w[k] (List.getElem_mem hkw)
      have inner : ∀ S', lcGo (cellOk ⟨[], enumD (w[k].2.map D.int)⟩) (mgTup 2 (mgCons (mgName 5) (mgCons (mgName 6) (mgNil)))) mYes (mTup (mCons (mVar 6) (mCons (mVar 2) (mCons (mVar 5) (mNil))))) [some (encW w), some (.ref S.length), some (.int (k : Nat)), some w[k].1, some (.tup (w[k].2.map D.int)), none, none] (enumD (w[k].2.map D.int)) [] S' = .ok ((rowT w[k] k).map encT) S' := fun S' => by
        obtain ⟨f, hf⟩ : ∃ f : D → D, ∀ i j, f (.wtu [.int i, .int j]) = .tup [.int j, .int (k : Nat), .int i] := ⟨fun d => match d with | .wtu [.int i, .int j] => .tup [.int j, .int (k : Nat), .int i] | d => d, fun _ _ => rfl⟩
        have e1 : (rowT w[k] k).map encT = (enumD (w[k].2.map D.int)).map f := by
          rw [enum_ints, List.map_map]
          unfold rowT
          rw [List.map_map]
          congr 1
          funext q
          exact (hf _ _).symm
        rw [e1]
        refine lc_map rfl _ _ (by rw [enum_ints]; simp; have := ok.2.1; omega) fun d hd => ?_
        rw [enum_ints] at hd
        obtain ⟨q, _, rfl⟩ := List.mem_map.mp hd
        refine ⟨_, rfl, ?_⟩
        simp [hf]
      refine ⟨_, S ++ [.lst ((tiesT (w.take (k + 1))).map encT)], ?_, some (.int (k : Nat)), some w[k].1, some (.tup (w[k].2.map D.int)), d', e, rfl, rfl⟩
      rw [tiesT_take hkw, List.map_append]
      have z : (tiesT (w.take k)).length + w[k].2.length ≤ 1000000 := by
        have := tiesT_len hw k (by omega)
        have := ok.2.1
        have := hw.1
        omega
      have hz : ((tiesT (w.take k)).map encT).length + ((rowT w[k] k).map encT).length ≤ 1000000 := by simp [rowT_len]; exact z
      simp only [List.length_map] at hz
      simp [tyIs, fExtend, cellL, mEnumA, wipeL, inner, at_end, set_end, hz, -List.map_append])
  rw [hl] at loop
  obtain ⟨l', S', e, a, b, c, d, f, rfl, rfl⟩ := loop
  rw [List.take_length] at e
  have z : (tiesT w).length ≤ 1000000 := by
    have := tiesT_len hw w.length (Nat.le_refl _)
    rw [List.take_length] at this
    have := hw.1
    omega
  have st : sSet 1 (mLstO (mNil)) (startL 7 [encW w]) S = .nx [some (encW w), some (.ref S.length), none, none, none, none, none] (S ++ [.lst []]) := by simp [startL]
  have fr : ∀ ms, ms = sCons (sExpr (mMet "list" fExtend (mVar 1) (mCons (mLcF finL (mEnumA (mCons (mVar 4) (mNil))) (mgTup 2 (mgCons (mgName 5) (mgCons (mgName 6) (mgNil)))) (mYes) (mTup (mCons (mVar 6) (mCons (mVar 2) (mCons (mVar 5) (mNil))))) [5, 6]) (mNil)))) (sNil) →
      sFor (mEnumA (mCons (mVar 0) (mNil))) (mgTup 2 (mgCons (mgName 2) (mgCons (mgTup 2 (mgCons (mgName 3) (mgCons (mgName 4) (mgNil)))) (mgNil)))) ms [some (encW w), some (.ref S.length), none, none, none, none, none] (S ++ [.lst []]) = .nx [some (encW w), some (.ref S.length), a, b, c, d, f] (S ++ [.lst ((tiesT w).map encT)]) := fun ms hms => by
    rw [← hms] at e
    simp [mEnumA, e]
  have rt : ∀ ms, ms = sCons (sRet (mCall fTuple (mCons (mCall fSorted (mCons (mVar 1) (mNil))) (mNil)))) sNil → ms [some (encW w), some (.ref S.length), a, b, c, d, f] (S ++ [.lst ((tiesT w).map encT)]) = .rt (.tup (duesD w)) (S ++ [.lst ((tiesT w).map encT)]) := fun ms hms => by
    subst hms
    simp [at_end, pyDL_ok okT, sortT z, duesD]
  exact ⟨_, _, (sCons_nx st).trans ((sCons_nx (fr _ rfl)).trans (rt _ rfl)), by simp, thaw_ok (okD_refs (by rw [okD]; exact dues_ok w))⟩

end Law

set_option Elab.async false
set_option linter.all false
set_option maxRecDepth 100000
set_option maxHeartbeats 2000000
namespace Law
open PySem PySem.Spec PyProof.Rows L2 Md
/-! ### the object is made -/
def usC (us : List T3) (n : Nat) : List Cell := (List.range n).map fun g => Cell.dct ((kvC (tkI us g)).map encK)
def wnC (us : List T3) (n : Nat) : List Cell := (List.range n).map fun (s : Nat) => Cell.dct ((kvC (gvL us (s : Int))).map encK)
theorem usC_len {us : List T3} {n : Nat} : (usC us n).length = n := by simp [usC]
theorem wnC_len {us : List T3} {n : Nat} : (wnC us n).length = n := by simp [wnC]
theorem usC_at {us : List T3} {n k : Nat} (h : k < n) : (usC us n)[k]? = some (.dct ((kvC (tkI us k)).map encK)) := by simp [usC, h]
theorem wnC_at {us : List T3} {n k : Nat} (h : k < n) : (wnC us n)[k]? = some (.dct ((kvC (gvL us (k : Int))).map encK)) := by simp [wnC, h]
theorem usC_set {us : List T3} {t : T3} {n g : Nat} (hg : g < n) (ht : t.1 = (g : Int)) : (usC us n).set g (.dct ((incK (kvC (tkI us g)) t.2.1).map encK)) = usC (us ++ [t]) n := by
  apply List.ext_getElem?
  intro i
  rw [List.getElem?_set]
  by_cases hi : i < n
  · by_cases e : g = i
    · subst e
      rw [if_pos rfl, if_pos (by rw [usC_len]; exact hg), usC_at hg]
      congr 2
      unfold tkI
      rw [List.filter_append]
      simp [ht, kvC_snoc]
    · rw [if_neg e, usC_at hi, usC_at hi]
      congr 2
      unfold tkI
      rw [List.filter_append]
      have : ¬ t.1 = (i : Int) := by omega
      simp [this]
  · have h1 : (usC us n)[i]? = none := List.getElem?_eq_none (by rw [usC_len]; omega)
    have h2 : (usC (us ++ [t]) n)[i]? = none := List.getElem?_eq_none (by rw [usC_len]; omega)
    rw [if_neg (by omega), h1, h2]
theorem wnC_set {us : List T3} {t : T3} {n s : Nat} (hs : s < n) (ht : t.2.1 = (s : Int)) : (wnC us n).set s (.dct ((incK (kvC (gvL us (s : Int))) t.1).map encK)) = wnC (us ++ [t]) n := by
  apply List.ext_getElem?
  intro i
  rw [List.getElem?_set]
  by_cases hi : i < n
  · by_cases e : s = i
    · subst e
      rw [if_pos rfl, if_pos (by rw [wnC_len]; exact hs), wnC_at hs]
      congr 2
      unfold gvL
      rw [List.filter_append]
      simp [ht, kvC_snoc]
    · rw [if_neg e, wnC_at hi, wnC_at hi]
      congr 2
      unfold gvL
      rw [List.filter_append]
      have : ¬ t.2.1 = (i : Int) := by omega
      simp [this]
  · have h1 : (wnC us n)[i]? = none := List.getElem?_eq_none (by rw [wnC_len]; omega)
    have h2 : (wnC (us ++ [t]) n)[i]? = none := List.getElem?_eq_none (by rw [wnC_len]; omega)
    rw [if_neg (by omega), h1, h2]
abbrev PF4 (n : Nat) (q : Bool) (u w : List D) : List (Str × D) := [("many", .int (n : Int)), ("is_queue", .bl q), ("uses", .lst u), ("wants", .lst w)]
/-- n dicts are made -/
theorem dicts_lc {n : Nat} {w : Web} {S : Sto} {lw : Md.Loc} (hn : w.length = n) (hz : n ≤ 1000) : lcGo (cellOk ⟨[], w.map encS⟩) (mgName 6) mYes mDct0 lw (w.map encS) [] S = .ok (refsL S.length n) (S ++ List.replicate n (Cell.dct [])) := by
  have := lc_to (ok := cellOk ⟨[], w.map encS⟩) (mg := mgName 6) (mt := mYes) (me := mDct0) (lw := lw) (w.map encS) (fun i a S' => a = refsL S.length i ∧ S' = S ++ List.replicate i (Cell.dct [])) (S := S) ⟨rfl, by simp⟩ (fun _ _ _ _ _ => rfl) fun i d a S' hd p => by
    obtain ⟨rfl, rfl⟩ := p
    have hi : i < w.length := by have := (List.getElem?_eq_some_iff.mp hd).1; simpa using this
    refine ⟨_, rfl, .inr ⟨_, rfl, by simp [refsL]; omega, ?_⟩⟩
    refine ⟨.ref (S ++ List.replicate i (Cell.dct [])).length, S ++ List.replicate i (Cell.dct []) ++ [.dct []], rfl, ?_, ?_⟩
    · unfold refsL
      rw [List.range_succ, List.map_append]
      simp
    · rw [List.append_assoc, List.replicate_succ']
  rw [List.length_map, hn] at this
  obtain ⟨a, S1, e1, rfl, rfl⟩ := this
  exact e1
theorem usC_nil {n : Nat} : usC [] n = List.replicate n (Cell.dct []) := by
  unfold usC
  rw [List.eq_replicate_iff]
  refine ⟨by simp, fun c hc => ?_⟩
  obtain ⟨k, _, rfl⟩ := List.mem_map.mp hc
  rfl
theorem wnC_nil {n : Nat} : wnC [] n = List.replicate n (Cell.dct []) := by
  unfold wnC
  rw [List.eq_replicate_iff]
  refine ⟨by simp, fun c hc => ?_⟩
  obtain ⟨k, _, rfl⟩ := List.mem_map.mp hc
  rfl
noncomputable abbrev inBody : SD := (sCons (sSub (mOp fIx (mFld [("Passes" : Str)] "uses" (mVar 0)) (mVar 3)) (mVar 4) (mOp fAdd (mMet "dict" fGet (mOp fIx (mFld [("Passes" : Str)] "uses" (mVar 0)) (mVar 3)) (mCons (mVar 4) (mCons (mC (.int 0)) (mNil)))) (mC (.int 1))))
    (sCons (sSub (mOp fIx (mFld [("Passes" : Str)] "wants" (mVar 0)) (mVar 4)) (mVar 3) (mOp fAdd (mMet "dict" fGet (mOp fIx (mFld [("Passes" : Str)] "wants" (mVar 0)) (mVar 4)) (mCons (mVar 3) (mCons (mC (.int 0)) (mNil)))) (mC (.int 1))))
    (sNil)))
abbrev SI (S : Sto) (n : Nat) (q : Bool) (us : List T3) : Sto := S ++ .ins "Passes" (PF4 n q (refsL (S.length + 1) n) (refsL (S.length + 1 + n) n)) :: (usC us n ++ wnC us n)
theorem si_inst {S : Sto} {n : Nat} {q : Bool} {us : List T3} : (SI S n q us)[S.length]? = some (.ins "Passes" (PF4 n q (refsL (S.length + 1) n) (refsL (S.length + 1 + n) n))) := by simp [SI]
theorem si_use {S : Sto} {c : Cell} {A B : List Cell} {g : Nat} (h : g < A.length) : (S ++ c :: (A ++ B))[S.length + 1 + g]? = A[g]? := by
  rw [List.getElem?_append_right (by omega), show S.length + 1 + g - S.length = g + 1 by omega, List.getElem?_cons_succ, List.getElem?_append_left h]
theorem si_wnt {S : Sto} {c : Cell} {A B : List Cell} {s : Nat} : (S ++ c :: (A ++ B))[S.length + 1 + A.length + s]? = B[s]? := by
  rw [List.getElem?_append_right (by omega), show S.length + 1 + A.length + s - S.length = A.length + s + 1 by omega, List.getElem?_cons_succ, List.getElem?_append_right (by omega)]
  congr 1; omega
theorem si_useS {S : Sto} {c z : Cell} {A B : List Cell} {g : Nat} (h : g < A.length) : (S ++ c :: (A ++ B)).set (S.length + 1 + g) z = S ++ c :: (A.set g z ++ B) := by
  rw [List.set_append_right _ _ (by omega), show S.length + 1 + g - S.length = g + 1 by omega, List.set_cons_succ, List.set_append_left _ _ h]
theorem si_wntS {S : Sto} {c z : Cell} {A B : List Cell} {s : Nat} : (S ++ c :: (A ++ B)).set (S.length + 1 + A.length + s) z = S ++ c :: (A ++ B.set s z) := by
  rw [List.set_append_right _ _ (by omega), show S.length + 1 + A.length + s - S.length = A.length + s + 1 by omega, List.set_cons_succ, List.set_append_right _ _ (by omega)]
  congr 3
  congr 1
  omega
theorem get_run {S' : Sto} {l : Nat} {kv : KV} {k : Int} (h : S'[l]? = some (.dct (kv.map encK))) : fGet (.ref l) [.int k, .int 0] S' = .ok (.int ((lkI kv k).getD 0)) S' := by
  unfold fGet
  dsimp only
  rw [h]
  dsimp only
  rw [show keyD (D.int k) = some (.inl k) from rfl, need_some, lkD_enc]
  cases lkI kv k <;> rfl
theorem set_run {S' : Sto} {l : Nat} {kv : KV} {k : Int} (h : S'[l]? = some (.dct (kv.map encK))) (hz : kv.length ≤ 1000) : fSet (.ref l) (.int k) (.int ((lkI kv k).getD 0 + 1)) S' = .ok () (S'.set l (.dct ((incK kv k).map encK))) := by
  unfold fSet
  dsimp only
  rw [h]
  dsimp only
  rw [show (keyD (D.int k)).isSome = true from rfl, show small (kv.map encK).length = true from small_of (by simp; omega), putD_enc]
  rfl
theorem in_step {S : Sto} {n : Nat} {q : Bool} {us : List T3} {t : T3} {W : D} {t6 : Option D} (hz : us.length ≤ 999) (h1 : 0 ≤ t.1 ∧ t.1 < (n : Int)) (h2 : 0 ≤ t.2.1 ∧ t.2.1 < (n : Int)) :
    inBody [some (.ref S.length), some W, some (.bl q), some (.int t.1), some (.int t.2.1), some (.int t.2.2), t6] (SI S n q us) = .nx [some (.ref S.length), some W, some (.bl q), some (.int t.1), some (.int t.2.1), some (.int t.2.2), t6] (SI S n q (us ++ [t])) := by
  obtain ⟨g, hg⟩ : ∃ g : Nat, t.1 = (g : Int) := ⟨t.1.toNat, by omega⟩
  obtain ⟨s, hs⟩ : ∃ s : Nat, t.2.1 = (s : Int) := ⟨t.2.1.toNat, by omega⟩
  have gn : g < n := by omega
  have sn : s < n := by omega
  obtain ⟨F, hF⟩ : ∃ F, F = PF4 n q (refsL (S.length + 1) n) (refsL (S.length + 1 + n) n) := ⟨_, rfl⟩
  have lku : List.lookup ("uses" : Str) F = some (.lst (refsL (S.length + 1) n)) := by rw [hF]; rfl
  have lkw : List.lookup ("wants" : Str) F = some (.lst (refsL (S.length + 1 + n) n)) := by rw [hF]; rfl
  have ru : ∀ S', ixD S' (.lst (refsL (S.length + 1) n)) (.int (g : Int)) = some (.ref (S.length + 1 + g)) := fun S' => refs_at gn
  have rw' : ∀ S', ixD S' (.lst (refsL (S.length + 1 + n) n)) (.int (s : Int)) = some (.ref (S.length + 1 + n + s)) := fun S' => refs_at sn
  obtain ⟨S1, hS1⟩ : ∃ S1, S1 = SI S n q us := ⟨_, rfl⟩
  obtain ⟨S2, hS2⟩ : ∃ S2, S2 = S ++ Cell.ins "Passes" F :: (usC (us ++ [t]) n ++ wnC us n) := ⟨_, rfl⟩
  obtain ⟨S3, hS3⟩ : ∃ S3, S3 = SI S n q (us ++ [t]) := ⟨_, rfl⟩
  rw [← hS1, ← hS3]
  have i1 : S1[S.length]? = some (.ins "Passes" F) := by rw [hS1, hF]; exact si_inst
  have i2 : S2[S.length]? = some (.ins "Passes" F) := by rw [hS2]; simp
  have u1 : S1[S.length + 1 + g]? = some (.dct ((kvC (tkI us g)).map encK)) := by rw [hS1]; exact (si_use (by rw [usC_len]; exact gn)).trans (usC_at gn)
  have u2 : S1.set (S.length + 1 + g) (.dct ((incK (kvC (tkI us g)) t.2.1).map encK)) = S2 := by
    rw [hS1, hS2]
    show (S ++ _ :: (usC us n ++ wnC us n)).set _ _ = _
    rw [si_useS (by rw [usC_len]; exact gn), usC_set gn hg, hF]
  have w1 : S2[S.length + 1 + n + s]? = some (.dct ((kvC (gvL us (s : Int))).map encK)) := by
    have := si_wnt (S := S) (c := .ins "Passes" F) (A := usC (us ++ [t]) n) (B := wnC us n) (s := s)
    rw [usC_len] at this
    rw [hS2, this]
    exact wnC_at sn
  have w2 : S2.set (S.length + 1 + n + s) (.dct ((incK (kvC (gvL us (s : Int))) t.1).map encK)) = S3 := by
    have := si_wntS (S := S) (c := .ins "Passes" F) (z := .dct ((incK (kvC (gvL us (s : Int))) t.1).map encK)) (A := usC (us ++ [t]) n) (B := wnC us n) (s := s)
    rw [usC_len] at this
    rw [hS2, this, wnC_set sn hs, hS3, hF]
  have ku : (kvC (tkI us g)).length ≤ 1000 := Nat.le_trans (kvC_len _) (Nat.le_trans tk_le (by omega))
  have kw : (kvC (gvL us (s : Int))).length ≤ 1000 := Nat.le_trans (kvC_len _) (Nat.le_trans gv_le (by omega))
  have gu := get_run (k := t.2.1) u1
  have su := set_run (k := t.2.1) u1 ku
  have gw := get_run (k := t.1) w1
  have sw := set_run (k := t.1) w1 kw
  rw [u2] at su
  rw [w2] at sw
  have tu : tyIs S1 (.ref (S.length + 1 + g)) "dict" = true := by unfold tyIs; simp [u1]
  have tw : tyIs S2 (.ref (S.length + 1 + n + s)) "dict" = true := by unfold tyIs; simp [w1]
  rw [hs] at gu su
  rw [hg] at gw sw
  rw [hg, hs]
  clear hS1 hS2 hS3 u1 u2 w1 w2
  generalize refsL (S.length + 1) n = RU at *
  generalize refsL (S.length + 1 + n) n = RW at *
  simp [i1, i2, lku, lkw, ru, rw', gu, su, gw, sw, tu, tw]

end Law

set_option Elab.async false
set_option linter.all false
set_option maxRecDepth 100000
set_option maxHeartbeats 2000000
namespace Law
open PySem PySem.Spec PyProof.Rows L2 Md
/-! ### the object of Passes, made -/
abbrev SF (S : Sto) (n : Nat) (q : Bool) (us : List T3) : Sto := S ++ .ins "Passes" (PFs n q (refsL (S.length + 1) n) (refsL (S.length + 1 + n) n) (.ref (S.length + 1 + 2 * n)) (.ref (S.length + 2 + 2 * n))) :: (usC us n ++ wnC us n ++ [.dcn [], .dcn []])
theorem sf_pass {S : Sto} {n : Nat} {q : Bool} {us : List T3} : PassAt n us q S.length (SF S n q us) [] [] := by
  have e : ∀ i, (SF S n q us)[S.length + 1 + i]? = (usC us n ++ wnC us n ++ [.dcn [], .dcn []])[i]? := fun i => by
    rw [List.getElem?_append_right (by omega), show S.length + 1 + i - S.length = i + 1 by omega, List.getElem?_cons_succ]
  refine ⟨by simp [SF], fun g hg => ?_, fun s hs => ?_, ?_, ?_⟩
  · rw [e, List.append_assoc, List.getElem?_append_left (by rw [usC_len]; exact hg)]
    exact usC_at hg
  · rw [show S.length + 1 + n + s = S.length + 1 + (n + s) by omega, e, List.append_assoc, List.getElem?_append_right (by rw [usC_len]; omega), List.getElem?_append_left (by rw [usC_len, wnC_len]; omega), usC_len, show n + s - n = s by omega]
    exact wnC_at hs
  · rw [e, List.getElem?_append_right (by rw [List.length_append, usC_len, wnC_len]; omega), List.length_append, usC_len, wnC_len, show 2 * n - (n + n) = 0 by omega]
    rfl
  · rw [show S.length + 2 + 2 * n = S.length + 1 + (2 * n + 1) by omega, e, List.getElem?_append_right (by rw [List.length_append, usC_len, wnC_len]; omega), List.length_append, usC_len, wnC_len, show 2 * n + 1 - (n + n) = 1 by omega]
    rfl
theorem fldS_run {f : Str} {me : ED} {loc : Md.Loc} {S0 T : Sto} {S : Sto} {v : D} {F : List (Str × D)} (h0 : loc[0]? = some (some (.ref S.length))) (hv : me loc S0 = .ok v (S ++ .ins "Passes" F :: T)) (hF : F.length < 1000) :
    sFldS [("Passes" : Str)] f (mVar 0) me loc S0 = .nx loc (S ++ .ins "Passes" (putFD f v F) :: T) := by
  have e : (S ++ Cell.ins "Passes" F :: T)[S.length]? = some (.ins "Passes" F) := by simp
  have e2 : (S ++ Cell.ins "Passes" F :: T).set S.length (.ins "Passes" (putFD f v F)) = S ++ Cell.ins "Passes" (putFD f v F) :: T := by simp
  simp [hv, h0, e, e2, hF]
theorem init_run {n : Nat} {w : Web} {us : List T3} {q : Bool} {S : Sto} (hn : n ≤ 10) (hw : WebOk n w) (hu : duesD w = us.map encT) (hup : us.Perm (tiesT w)) :
    m_Passes___init__ [.ref S.length, encW w, .bl q] (S ++ [.ins "Passes" []]) = .ok .non (SF S w.length q us) := by
  have hlw := hw.1
  have zus : us.length ≤ 999 := by
    rw [hup.length_eq]
    have := tiesT_len hw w.length (Nat.le_refl _)
    rw [List.take_length] at this
    omega
  have rng : ∀ t ∈ us, 0 ≤ t.1 ∧ t.1 < (w.length : Int) ∧ 0 ≤ t.2.1 ∧ t.2.1 < (w.length : Int) := fun t ht => gv_range hup hw ht
  unfold m_Passes___init__ mDefU
  rw [if_pos (show [D.ref S.length, encW w, .bl q].length = 3 from rfl)]
  let B : Option D → Option D → Option D → Option D → Md.Loc := fun t3 t4 t5 t6 => [some (.ref S.length), some (encW w), some (.bl q), t3, t4, t5, t6]
  have s0 : startL 7 [.ref S.length, encW w, .bl q] = B none none none none := rfl
  rw [s0]
  have a1 : sFldS [("Passes" : Str)] "many" (mVar 0) (mCall fLen (mCons (mVar 1) (mNil))) (B none none none none) (S ++ [.ins "Passes" []]) = .nx (B none none none none) (S ++ .ins "Passes" [("many", .int (w.length : Int))] :: []) :=
    fldS_run (F := []) rfl (by simp [B]) (by decide)
  have a2 : sFldS [("Passes" : Str)] "is_queue" (mVar 0) (mVar 2) (B none none none none) (S ++ .ins "Passes" [("many", .int (w.length : Int))] :: []) = .nx (B none none none none) (S ++ .ins "Passes" [("many", .int (w.length : Int)), ("is_queue", .bl q)] :: []) :=
    fldS_run (F := [("many", .int (w.length : Int))]) rfl rfl (by simp)
  have d1 : ∀ S', mLcF finL (mSeq (mVar 1)) (mgName 6) (mYes) (mDct0) [6] (B none none none none) S' = .ok (.lst (refsL S'.length w.length)) (S' ++ List.replicate w.length (Cell.dct [])) := fun S' => by
    have := dicts_lc (w := w) (n := w.length) (S := S') (lw := B none none none none) rfl (by omega)
    dsimp only [B] at *
    generalize hW : w.map encS = W at *
    have sq : ∀ S, seqOf S (encW w) = some W := fun S => by rw [← hW]; rfl
    have cs : ∀ S, cellsOf S (encW w) = [] := fun S => rfl
    generalize encW w = EW at *
    simp [wipeL, this, sq, cs]
  have a3 : sFldS [("Passes" : Str)] "uses" (mVar 0) (mLcF finL (mSeq (mVar 1)) (mgName 6) (mYes) (mDct0) [6]) (B none none none none) (S ++ .ins "Passes" [("many", .int (w.length : Int)), ("is_queue", .bl q)] :: []) =
      .nx (B none none none none) (S ++ .ins "Passes" [("many", .int (w.length : Int)), ("is_queue", .bl q), ("uses", .lst (refsL (S.length + 1) w.length))] :: List.replicate w.length (Cell.dct [])) := by
    refine fldS_run (F := [("many", .int (w.length : Int)), ("is_queue", .bl q)]) (v := .lst (refsL (S.length + 1) w.length)) rfl ?_ (by simp)
    rw [d1]
    simp
  have a4 : sFldS [("Passes" : Str)] "wants" (mVar 0) (mLcF finL (mSeq (mVar 1)) (mgName 6) (mYes) (mDct0) [6]) (B none none none none) (S ++ .ins "Passes" [("many", .int (w.length : Int)), ("is_queue", .bl q), ("uses", .lst (refsL (S.length + 1) w.length))] :: List.replicate w.length (Cell.dct [])) =
      .nx (B none none none none) (SI S w.length q []) := by
    show _ = OutS.nx _ (S ++ .ins "Passes" _ :: (usC [] w.length ++ wnC [] w.length))
    rw [usC_nil, wnC_nil]
    refine fldS_run (F := [("many", .int (w.length : Int)), ("is_queue", .bl q), ("uses", .lst (refsL (S.length + 1) w.length))]) (v := .lst (refsL (S.length + 1 + w.length) w.length)) rfl ?_ (by simp)
    rw [d1]
    congr 1
    · congr 2
      simp; omega
    · simp
  have tr : ∀ S', m_ties [encW w] S' = .ok (.tup (us.map encT)) S' := fun S' => by rw [ties_run (by omega) hw, hu]
  have loop := for_to (ok := cellOk ⟨[], us.map encT⟩) (mg := mgTup 3 (mgCons (mgName 3) (mgCons (mgName 4) (mgCons (mgName 5) (mgNil))))) (ms := inBody) (us.map encT)
    (fun i l S' => (∃ t3 t4 t5, l = B t3 t4 t5 none) ∧ S' = SI S w.length q (us.take i)) (loc := B none none none none) (S := SI S w.length q []) ⟨⟨_, _, _, rfl⟩, rfl⟩ (fun _ _ _ _ _ => rfl) fun i d l S' hd p => by
      obtain ⟨⟨t3, t4, t5, rfl⟩, rfl⟩ := p
      rw [List.getElem?_map] at hd
      obtain ⟨t, ht, rfl⟩ := Option.map_eq_some_iff.mp hd
      have hb := rng t (List.mem_of_getElem? ht)
      have tk : us.take (i + 1) = us.take i ++ [t] := by rw [List.take_succ, ht]; rfl
      refine ⟨B (some (.int t.1)) (some (.int t.2.1)) (some (.int t.2.2)) none, rfl, B (some (.int t.1)) (some (.int t.2.1)) (some (.int t.2.2)) none, SI S w.length q (us.take (i + 1)), ?_, ⟨_, _, _, rfl⟩, rfl⟩
      rw [tk]
      exact in_step (by rw [List.length_take]; omega) ⟨hb.1, hb.2.1⟩ ⟨hb.2.2.1, hb.2.2.2⟩
  rw [List.length_map] at loop
  obtain ⟨l5, S5, e5, ⟨t3, t4, t5, rfl⟩, rfl⟩ := loop
  rw [List.take_length] at e5
  have a5 : sFor (mSeq (mFn m_ties (mCons (mVar 1) (mNil)))) (mgTup 3 (mgCons (mgName 3) (mgCons (mgName 4) (mgCons (mgName 5) (mgNil))))) inBody (B none none none none) (SI S w.length q []) = .nx (B t3 t4 t5 none) (SI S w.length q us) := by
    refine (sFor_nx (src := ⟨[], us.map encT⟩) (S1 := SI S w.length q []) ?_).trans e5
    have tr1 := tr (SI S w.length q [])
    generalize SI S w.length q [] = S1 at *
    generalize us.map encT = UT at *
    simp [B, tr1]
  have ls : (SI S w.length q us).length = S.length + 1 + 2 * w.length := by
    show (S ++ _ :: (usC us w.length ++ wnC us w.length)).length = _
    rw [List.length_append, List.length_cons, List.length_append, usC_len, wnC_len]; omega
  have a6 : sFldS [("Passes" : Str)] "known" (mVar 0) (mDcn0) (B t3 t4 t5 none) (SI S w.length q us) = .nx (B t3 t4 t5 none) (S ++ .ins "Passes" (PF4 w.length q (refsL (S.length + 1) w.length) (refsL (S.length + 1 + w.length) w.length) ++ [(("known" : Str), .ref (S.length + 1 + 2 * w.length))]) :: (usC us w.length ++ wnC us w.length ++ [.dcn []])) := by
    refine fldS_run (S := S) (F := PF4 w.length q (refsL (S.length + 1) w.length) (refsL (S.length + 1 + w.length) w.length)) (v := .ref (S.length + 1 + 2 * w.length)) rfl ?_ (by simp)
    show Out.ok (D.ref (SI S w.length q us).length) (SI S w.length q us ++ [.dcn []]) = _
    rw [ls]
    simp [SI]
  have a7 : sFldS [("Passes" : Str)] "peaks" (mVar 0) (mDcn0) (B t3 t4 t5 none) (S ++ .ins "Passes" (PF4 w.length q (refsL (S.length + 1) w.length) (refsL (S.length + 1 + w.length) w.length) ++ [(("known" : Str), .ref (S.length + 1 + 2 * w.length))]) :: (usC us w.length ++ wnC us w.length ++ [.dcn []])) = .nx (B t3 t4 t5 none) (SF S w.length q us) := by
    refine (fldS_run (loc := B t3 t4 t5 none) (S := S) (F := PF4 w.length q (refsL (S.length + 1) w.length) (refsL (S.length + 1 + w.length) w.length) ++ [(("known" : Str), .ref (S.length + 1 + 2 * w.length))]) (v := .ref (S.length + 2 + 2 * w.length)) (T := usC us w.length ++ wnC us w.length ++ [.dcn [], .dcn []]) rfl ?_ (by simp)).trans rfl
    show Out.ok (D.ref _) _ = _
    congr 1
    · congr 1
      rw [List.length_append, List.length_cons, List.length_append, List.length_append, usC_len, wnC_len]
      simp; omega
    · simp
  have body : b_Passes___init__ (B none none none none) (S ++ [.ins "Passes" []]) = .nx (B t3 t4 t5 none) (SF S w.length q us) :=
    (sCons_nx a1).trans ((sCons_nx a2).trans ((sCons_nx a3).trans ((sCons_nx a4).trans ((sCons_nx a5).trans ((sCons_nx a6).trans ((sCons_nx a7).trans rfl))))))
  rw [body]; rfl
theorem make_run {n : Nat} {w : Web} {us : List T3} {q : Bool} {S : Sto} {ml : AD} {loc : Md.Loc} (hn : n ≤ 10) (hw : WebOk n w) (hu : duesD w = us.map encT) (hup : us.Perm (tiesT w)) (hml : ml loc S = .ok [encW w, .bl q] S) :
    mMake "Passes" m_Passes___init__ ml loc S = .ok (.ref S.length) (SF S w.length q us) := by
  unfold mMake
  rw [hml, Out.bind_ok, init_run hn hw hu hup]; rfl

end Law

set_option Elab.async false
set_option linter.all false
set_option maxRecDepth 100000
set_option maxHeartbeats 2000000
namespace Law
open PySem PySem.Spec PyProof.Rows L2 Md
theorem ent_ok : ∀ k, k ≤ 10 → entN k ≤ 16000000 := by decide
theorem rem_all {n : Nat} : remF n 0 = n := by
  unfold remF
  rw [List.filter_eq_self.mpr fun t _ => by simp [inB], rangeI_len]
abbrev st0 : Stg := (0, [])
theorem st0_ok {n : Nat} : StOk n st0 := ⟨Nat.two_pow_pos n, by show 0 ≤ 1000; omega, fun g hg => by cases hg⟩
theorem sf_set {S : Sto} {n : Nat} {q : Bool} {us : List T3} {c : Cell} : ∃ X, (SF S n q us).set (S.length + 2 + 2 * n) c = S ++ X := by
  refine ⟨(.ins "Passes" (PFs n q (refsL (S.length + 1) n) (refsL (S.length + 1 + n) n) (.ref (S.length + 1 + 2 * n)) (.ref (S.length + 2 + 2 * n))) :: (usC us n ++ wnC us n ++ [.dcn [], .dcn []])).set (S.length + 2 + 2 * n - S.length) c, ?_⟩
  rw [List.set_append_right _ _ (by omega)]

end Law

set_option Elab.async false
set_option linter.all false
set_option maxRecDepth 100000
set_option maxHeartbeats 2000000
namespace Law
open PySem PySem.Spec PyProof.Rows L2 Md
/-! ### the object of Passes: a memo changed -/
section
variable {n : Nat} {us : List T3} {q : Bool} {L : Nat} {S : Sto} {kn pk : List (D × D)}
theorem PassAt.put {c : List (D × D)} (h : PassAt n us q L S kn pk) : PassAt n us q L (S.set (L + 2 + 2 * n) (.dcn c)) kn c := by
  have g : ∀ {i : Nat} {d : Cell}, S[i]? = some d → i ≠ L + 2 + 2 * n → (S.set (L + 2 + 2 * n) (.dcn c))[i]? = some d := fun {i d} e ne => by
    rw [List.getElem?_set_ne (fun z => ne z.symm)]; exact e
  exact ⟨g h.inst (by omega), fun k hk => g (h.uses k hk) (by omega), fun k hk => g (h.wants k hk) (by omega), g h.known (by omega), List.getElem?_set_self h.lt⟩
theorem PassAt.same (h : PassAt n us q L S kn pk) : S.set (L + 2 + 2 * n) (.dcn pk) = S := by
  apply List.ext_getElem?
  intro j
  by_cases hj : L + 2 + 2 * n = j
  · subst hj; rw [List.getElem?_set_self h.lt, h.peaks]
  · rw [List.getElem?_set_ne hj]
theorem at_endP {P : Nat} {c x : Cell} : (S.set P c ++ [x])[S.length]? = some x := by
  rw [List.getElem?_append_right (by simp)]; simp
theorem set_endP {P : Nat} {c x z : Cell} : (S.set P c ++ [x]).set S.length z = S.set P c ++ [z] := by
  rw [List.set_append_right _ _ (by simp)]; simp
theorem set_setP {P : Nat} {c c' x : Cell} (h : P < S.length) : (S.set P c ++ [x]).set P c' = S.set P c' ++ [x] := by
  rw [List.set_append_left _ _ (by simpa using h), List.set_set]
theorem next_len {st : Stg} : (nextF n us q st).length ≤ remF n st.1 := by
  unfold nextF remF
  rw [show (rangeI n).filter (fun s => !inB st.1 s && findsF us q st s) = ((rangeI n).filter fun s => !inB st.1 s).filter fun s => findsF us q st s by
    rw [List.filter_filter]
    apply List.filter_congr
    intro x _
    rw [Bool.and_comm]]
  exact List.filter_sublist.length_le
end

end Law

set_option Elab.async false
set_option linter.all false
set_option maxRecDepth 100000
set_option maxHeartbeats 2000000
namespace Law
open PySem PySem.Spec PyProof.Rows L2 Md
/-! ### ways -/
def qW (st : Stg) : NestedKey := .tup [.num (st.1 : Int), .tup (st.2.map .num)]
theorem tkey_stD {st : Stg} : tkey (stD st) = some (qW st) := by
  rw [tkey]
  have e : keysN [D.int (st.1 : Int), .tup (st.2.map D.int)] = some [.num (st.1 : Int), .tup (st.2.map .num)] := by
    simp only [keysN, keyN, keysN_ints, Option.map_some]
  rw [e]
  show (if (NestedKey.tup _).depth ≤ 8 then _ else _) = _
  rw [if_pos]
  · rfl
  · simp [NestedKey.depth, NestedKey.depthAll, depth_ints]
theorem qW_inj {st st' : Stg} (h : qW st = qW st') : st = st' := by
  unfold qW at h
  simp only [NestedKey.tup.injEq, List.cons.injEq, NestedKey.num.injEq, and_true] at h
  obtain ⟨h1, h2⟩ := h
  exact Prod.ext (by omega) (map_num_inj h2)
theorem okD_stD {st : Stg} : okD (stD st) = true := by simp [okD, okL, okL_ints]
def waysV (n : Nat) (us : List T3) (q : Bool) (st : Stg) : Int := ((compS n us q st).length : Nat)
theorem ways_zero {n : Nat} {us : List T3} {q : Bool} {st : Stg} (h : remF n st.1 = 0) : waysV n us q st = 1 := by
  unfold waysV compS
  rw [h]; rfl
theorem ways_step {n : Nat} {us : List T3} {q : Bool} {st : Stg} {k : Nat} (h : remF n st.1 = k + 1) : waysV n us q st = ((nextF n us q st).map fun s => waysV n us q (behF us st s)).sum := by
  unfold waysV
  rw [comp_step h]
  generalize nextF n us q st = ss
  induction ss with
  | nil => rfl
  | cons s ss ih =>
    rw [List.flatMap_cons, List.length_append, List.length_map, List.map_cons, List.sum_cons, ← ih]
    simp
def MemoW (n : Nat) (us : List T3) (q : Bool) (kn : List (D × D)) : Prop := ∀ e ∈ kn, ∃ st, e = (stD st, D.int (waysV n us q st))
section
variable {n : Nat} {us : List T3} {q : Bool} {kn : List (D × D)}
theorem MemoW.lk {st : Stg} {v : D} (h : MemoW n us q kn) (e : lkN kn (qW st) = some v) : v = .int (waysV n us q st) := by
  unfold lkN at e
  obtain ⟨p, h1, rfl⟩ := Option.map_eq_some_iff.mp e
  have hk := List.find?_some h1
  simp only [decide_eq_true_eq] at hk
  obtain ⟨st', rfl⟩ := h p (List.mem_of_find?_eq_some h1)
  rw [show tkey (stD st', D.int (waysV n us q st')).1 = tkey (stD st') from rfl, tkey_stD] at hk
  obtain rfl := qW_inj (Option.some.inj hk)
  rfl
theorem MemoW.put {st : Stg} (h : MemoW n us q kn) : MemoW n us q (putN kn (stD st) (qW st) (.int (waysV n us q st))) ∧ (putN kn (stD st) (qW st) (.int (waysV n us q st))).length ≤ kn.length + 1 ∧
    lkN (putN kn (stD st) (qW st) (.int (waysV n us q st))) (qW st) = some (.int (waysV n us q st)) := by
  have m : MemoW n us q (putN kn (stD st) (qW st) (.int (waysV n us q st))) := by
    unfold putN
    split
    · intro e he
      obtain ⟨p, hp, rfl⟩ := List.mem_map.mp he
      obtain ⟨st', rfl⟩ := h p hp
      by_cases z : tkey (stD st') = some (qW st)
      · rw [if_pos z]
        rw [tkey_stD] at z
        obtain rfl := qW_inj (Option.some.inj z)
        exact ⟨_, rfl⟩
      · rw [if_neg z]; exact ⟨_, rfl⟩
    · intro e he
      rcases List.mem_append.mp he with he | he
      · exact h e he
      · exact ⟨st, by simpa using he⟩
  refine ⟨m, ?_, ?_⟩
  · unfold putN
    split <;> simp
  · obtain ⟨v, hv⟩ : ∃ v, lkN (putN kn (stD st) (qW st) (.int (waysV n us q st))) (qW st) = some v := by
      refine lk_some ?_
      unfold putN
      split
      · rename_i hs
        obtain ⟨v, hv⟩ := Option.isSome_iff_exists.mp hs
        unfold lkN at hv
        obtain ⟨p, h1, _⟩ := Option.map_eq_some_iff.mp hv
        have hk := List.find?_some h1
        simp only [decide_eq_true_eq] at hk
        refine ⟨_, List.mem_map.mpr ⟨p, List.mem_of_find?_eq_some h1, rfl⟩, ?_⟩
        rw [if_pos hk]; exact hk
      · exact ⟨(stD st, .int (waysV n us q st)), by simp, tkey_stD⟩
    rw [hv, m.lk hv]
theorem memoW_cell (h : MemoW n us q kn) (m : Nat) : cellB m (.dcn kn) = true := by
  show refsKN m kn = true
  induction kn with
  | nil => rfl
  | cons e r ih =>
    obtain ⟨st, rfl⟩ := h e (by simp)
    show (refsB m (stD st) && (refsB m (D.int _) && refsKN m r)) = true
    rw [okD_refs okD_stD, ih fun e he => h e (by simp [he])]
    rfl
end
section
variable {n : Nat} {us : List T3} {q : Bool} {L : Nat} {S : Sto} {kn pk : List (D × D)}
theorem PassAt.ltK (h : PassAt n us q L S kn pk) : L + 1 + 2 * n < S.length := (List.getElem?_eq_some_iff.mp h.known).1
theorem PassAt.putK {c : List (D × D)} (h : PassAt n us q L S kn pk) : PassAt n us q L (S.set (L + 1 + 2 * n) (.dcn c)) c pk := by
  have g : ∀ {i : Nat} {d : Cell}, S[i]? = some d → i ≠ L + 1 + 2 * n → (S.set (L + 1 + 2 * n) (.dcn c))[i]? = some d := fun {i d} e ne => by
    rw [List.getElem?_set_ne (fun z => ne z.symm)]; exact e
  exact ⟨g h.inst (by omega), fun k hk => g (h.uses k hk) (by omega), fun k hk => g (h.wants k hk) (by omega), List.getElem?_set_self h.ltK, g h.peaks (by omega)⟩
theorem PassAt.sameK (h : PassAt n us q L S kn pk) : S.set (L + 1 + 2 * n) (.dcn kn) = S := by
  apply List.ext_getElem?
  intro j
  by_cases hj : L + 1 + 2 * n = j
  · subst hj; rw [List.getElem?_set_self h.ltK, h.known]
  · rw [List.getElem?_set_ne hj]
abbrev BW (L : Nat) (st : Stg) (t3 t4 t5 t6 : Option D) : Md.Loc := [some (.ref L), some (.int (st.1 : Int)), some (.tup (st.2.map D.int)), t3, t4, t5, t6]
abbrev mgWy : TD := mgTup 2 (mgCons (mgName 4) (mgCons (mgTup 2 (mgCons (mgName 5) (mgCons (mgName 6) (mgNil)))) (mgNil)))
theorem ways_run (hn : n ≤ 10) (hz : us.length ≤ 1000) (hu : ∀ u ∈ us, 0 ≤ u.2.1) : ∀ (k fuel : Nat) (st : Stg) (S : Sto) (kn : List (D × D)), remF n st.1 = k → k < fuel → StOk n st → st.2.length + k ≤ 1000 → PassAt n us q L S kn pk → MemoW n us q kn → kn.length + entN k ≤ 16000000 →
    ∃ kn', m_Passes_ways fuel [.ref L, .int (st.1 : Int), .tup (st.2.map D.int)] S = .ok (.int (waysV n us q st)) (S.set (L + 1 + 2 * n) (.dcn kn')) ∧ MemoW n us q kn' ∧ kn'.length ≤ kn.length + entN k := by
  intro k
  induction k with
  | zero =>
    intro fuel st S kn hk hf ho _ h m _
    obtain ⟨f, rfl⟩ : ∃ f, fuel = f + 1 := ⟨fuel - 1, by omega⟩
    refine ⟨kn, ?_, m, by omega⟩
    rw [h.sameK, ways_zero hk]
    show mDef 7 3 (b_Passes_ways (m_Passes_ways f)) _ S = _
    refine def_pure rfl ⟨.int 1, S, ?_, by simp, thaw_ok rfl⟩
    have hd := done_run (b := st.1) hn h
    rw [decide_eq_true ((rem_zero ho.b).mp hk)] at hd
    have m1 := meth_run (m := m_Passes_is_done) (qn := "is_done") (mo := mVar 0) (ml := mCons (mVar 1) (mNil)) (loc := startL 7 [.ref L, .int (st.1 : Int), .tup (st.2.map D.int)]) (ds := [.int (st.1 : Int)]) h.inst pf_done rfl rfl
    rw [hd] at m1
    refine sCons_rt ?_
    generalize startL 7 [.ref L, .int (st.1 : Int), .tup (st.2.map D.int)] = LL at *
    simp [-r_meth, m1, truD]
  | succ k ih =>
    intro fuel st S kn hk hf ho hlen h m hent
    obtain ⟨f, rfl⟩ : ∃ f, fuel = f + 1 := ⟨fuel - 1, by omega⟩
    have hd := done_run (b := st.1) hn h
    rw [decide_eq_false (fun z => by have := (rem_zero ho.b).mpr z; omega)] at hd
    have m1 := meth_run (m := m_Passes_is_done) (qn := "is_done") (mo := mVar 0) (ml := mCons (mVar 1) (mNil)) (loc := startL 7 [.ref L, .int (st.1 : Int), .tup (st.2.map D.int)]) (ds := [.int (st.1 : Int)]) h.inst pf_done rfl rfl
    rw [hd] at m1
    have ee : entN (k + 1) = 1 + (k + 1) * entN k := rfl
    have sl : startL 7 [.ref L, .int (st.1 : Int), .tup (st.2.map D.int)] = BW L st none none none none := rfl
    have c1 : ∀ ms, sIf (mTru (mMeth [(("Passes" : Str), m_Passes_is_done)] "is_done" (mVar 0) (mCons (mVar 1) (mNil)))) ms sNil (BW L st none none none none) S = .nx (BW L st none none none none) S := fun ms => by
      rw [sl] at m1
      generalize BW L st none none none none = LL at *
      simp [-r_meth, m1, truD]
    have fld : ∀ (S' : Sto) (kn' : List (D × D)) (loc : Md.Loc), PassAt n us q L S' kn' pk → loc[0]? = some (some (.ref L)) → mFld [("Passes" : Str)] "known" (mVar 0) loc S' = .ok (.ref (L + 1 + 2 * n)) S' := fun S' kn' loc h' e => by
      have hi := h'.inst
      generalize hF : PFs n q (refsL (L + 1) n) (refsL (L + 1 + n) n) (.ref (L + 1 + 2 * n)) (.ref (L + 2 + 2 * n)) = F at hi
      have lk : List.lookup ("known" : Str) F = some (.ref (L + 1 + 2 * n)) := by rw [← hF]; exact pf_known
      simp [e, hi, lk]
    have key : ∀ (t3 t4 t5 t6 : Option D) (S' : Sto), mTup (mCons (mVar 1) (mCons (mVar 2) (mNil))) (BW L st t3 t4 t5 t6) S' = .ok (stD st) S' := fun t3 t4 t5 t6 S' => by
      dsimp only [BW, stD]
      generalize st.2.map D.int = LD at *
      simp
    have isin : ∀ (S' : Sto) (kn' : List (D × D)), PassAt n us q L S' kn' pk → inN (stD st) (.ref (L + 1 + 2 * n)) S' = some (lkN kn' (qW st)).isSome := fun S' kn' h' => by
      unfold inN
      dsimp only
      rw [h'.known]
      dsimp only
      rw [tkey_stD]; rfl
    have ret : ∀ (S' : Sto) (kn' : List (D × D)) (t3 t4 t5 t6 : Option D), PassAt n us q L S' kn' pk → lkN kn' (qW st) = some (.int (waysV n us q st)) →
        sRet (mOp fIxN (mFld [("Passes" : Str)] "known" (mVar 0)) (mTup (mCons (mVar 1) (mCons (mVar 2) (mNil))))) (BW L st t3 t4 t5 t6) S' = .rt (.int (waysV n us q st)) S' := fun S' kn' t3 t4 t5 t6 h' hl => by
      have f1 := fld S' kn' (BW L st t3 t4 t5 t6) h' rfl
      have k1 := key t3 t4 t5 t6 S'
      have x1 : ixN2 (.ref (L + 1 + 2 * n)) (stD st) S' = some (.int (waysV n us q st)) := by
        unfold ixN2
        dsimp only
        rw [h'.known]
        dsimp only
        rw [tkey_stD]
        exact hl
      generalize mTup (mCons (mVar 1) (mCons (mVar 2) (mNil))) = KE at *
      generalize BW L st t3 t4 t5 t6 = BB at *
      generalize stD st = SD0 at *
      simp [-r_fld, f1, k1, fIxN, x1]
    cases hin : lkN kn (qW st) with
    | some v =>
      have hv := m.lk hin
      subst hv
      refine ⟨kn, ?_, m, by omega⟩
      rw [h.sameK]
      show mDef 7 3 (b_Passes_ways (m_Passes_ways f)) _ S = _
      refine def_pure rfl ⟨.int (waysV n us q st), S, (sCons_nx (c1 _)).trans ((sCons_nx (?_ : _ = OutS.nx (BW L st none none none none) S)).trans (sCons_rt (ret S kn none none none none h hin))), by simp, thaw_ok rfl⟩
      have f1 := fld S kn (BW L st none none none none) h rfl
      have k1 := key none none none none S
      have x1 := isin S kn h
      rw [hin] at x1
      generalize mTup (mCons (mVar 1) (mCons (mVar 2) (mNil))) = KE at *
      generalize BW L st none none none none = BB at *
      generalize stD st = SD0 at *
      simp [-r_fld, f1, k1, fNotInN, x1]
    | none =>
      have hb : ∀ s ∈ nextF n us q st, StOk n (behF us st s) := fun s hs => ho.beh (by omega) (next_mem hs).1
      have nl : (nextF n us q st).length ≤ k + 1 := by rw [← hk]; exact next_len
      have mul : (nextF n us q st).length * entN k ≤ (k + 1) * entN k := Nat.mul_le_mul_right _ nl
      have nr := nexts_run hn hz hu h ho.l
      have lc := lc_to (ok := cellOk ⟨[], (nextF n us q st).map fun s => D.tup [.int s, stD (behF us st s)]⟩) (mg := mgWy) (mt := mYes) (me := mMeth [(("Passes" : Str), m_Passes_ways f)] "ways" (mVar 0) (mCons (mVar 5) (mCons (mVar 6) (mNil)))) (lw := BW L st none none none none) ((nextF n us q st).map fun s => D.tup [.int s, stD (behF us st s)])
        (fun i a S' => a = (((nextF n us q st).take i).map fun s => waysV n us q (behF us st s)).map D.int ∧ ∃ kn', S' = S.set (L + 1 + 2 * n) (.dcn kn') ∧ MemoW n us q kn' ∧ kn'.length ≤ kn.length + i * entN k) (S := S) ⟨rfl, kn, h.sameK.symm, m, by simp⟩ (fun _ _ _ _ _ => rfl) fun i d a S' hd p => by
          obtain ⟨rfl, kn', rfl, m', l'⟩ := p
          rw [List.getElem?_map] at hd
          obtain ⟨s, hs, rfl⟩ := Option.map_eq_some_iff.mp hd
          have hil : i < (nextF n us q st).length := (List.getElem?_eq_some_iff.mp hs).1
          have hsn : s ∈ nextF n us q st := List.mem_of_getElem? hs
          obtain ⟨a1, a2, _⟩ := next_mem hsn
          have := rem_set a1 a2
          have bl : (behF us st s).2.length ≤ st.2.length + 1 := by
            show ((st.2 ++ [s]).filter _).length ≤ _
            refine Nat.le_trans List.filter_sublist.length_le ?_
            simp
          have h1 : PassAt n us q L (S.set (L + 1 + 2 * n) (.dcn kn')) kn' pk := h.putK
          have e1 : (i + 1) * entN k = i * entN k + entN k := Nat.succ_mul _ _
          have e2 : (i + 1) * entN k ≤ (k + 1) * entN k := Nat.mul_le_mul_right _ (by omega)
          obtain ⟨kn2, r1, m2, l2⟩ := ih f (behF us st s) _ kn' (by show remF n (setB st.1 s) = k; omega) (by omega) (hb s hsn) (by omega) h1 m' (by omega)
          rw [List.set_set] at r1
          have mm := (meth_run (m := m_Passes_ways f) (qn := "ways") (mo := mVar 0) (ml := mCons (mVar 5) (mCons (mVar 6) (mNil))) (loc := BW L st none (some (.int s)) (some (.int ((behF us st s).1 : Int))) (some (.tup ((behF us st s).2.map D.int)))) (ds := [.int ((behF us st s).1 : Int), .tup ((behF us st s).2.map D.int)]) h1.inst pf_ways rfl rfl).trans r1
          refine ⟨BW L st none (some (.int s)) (some (.int ((behF us st s).1 : Int))) (some (.tup ((behF us st s).2.map D.int))), rfl, .inr ⟨_, rfl, by simp; omega, ?_⟩⟩
          refine ⟨_, _, mm, ?_, kn2, rfl, m2, by omega⟩
          have tk : (nextF n us q st).take (i + 1) = (nextF n us q st).take i ++ [s] := by rw [List.take_succ, hs]; rfl
          rw [tk, List.map_append, List.map_append]
          rfl
      rw [List.length_map] at lc
      obtain ⟨a, S1, e1, rfl, kn2, rfl, m2, l2⟩ := lc
      rw [List.take_length] at e1
      have ws := ways_step (n := n) (us := us) (q := q) hk
      have h2 : PassAt n us q L (S.set (L + 1 + 2 * n) (.dcn kn2)) kn2 pk := h.putK
      obtain ⟨m3, l3, k3⟩ := m2.put (st := st)
      obtain ⟨kn3, hkn3⟩ : ∃ kn3, kn3 = putN kn2 (stD st) (qW st) (.int (waysV n us q st)) := ⟨_, rfl⟩
      rw [← hkn3] at m3 l3 k3
      have h3 : PassAt n us q L (S.set (L + 1 + 2 * n) (.dcn kn3)) kn3 pk := h.putK
      have c3 : sSet 3 (mCall fSum (mCons (mLcF finL (mSeq (mMeth [(("Passes" : Str), m_Passes_nexts)] "nexts" (mVar 0) (mCons (mVar 1) (mCons (mVar 2) (mNil))))) mgWy (mYes) (mMeth [(("Passes" : Str), m_Passes_ways f)] "ways" (mVar 0) (mCons (mVar 5) (mCons (mVar 6) (mNil)))) [4, 5, 6]) (mNil))) (BW L st none none none none) S = .nx (BW L st (some (.int (waysV n us q st))) none none none) (S.set (L + 1 + 2 * n) (.dcn kn2)) := by
        have mm := meth_run (m := m_Passes_nexts) (qn := "nexts") (mo := mVar 0) (ml := mCons (mVar 1) (mCons (mVar 2) (mNil))) (loc := BW L st none none none none) (ds := [.int (st.1 : Int), .tup (st.2.map D.int)]) h.inst pf_nexts rfl rfl
        rw [nr] at mm
        have sf : ∀ S, fSum [.lst (((nextF n us q st).map fun s => waysV n us q (behF us st s)).map D.int)] S = .ok (.int (waysV n us q st)) S := fun S => by
          show need (some _) (fun ds => need (intsD ds) fun ns => Out.ok (D.int ns.sum) S) = _
          rw [need_some, intsD_of', need_some, ws]
        have wl : wipeL (BW L st none none none none) [4, 5, 6] = BW L st none none none none := rfl
        have ls : (BW L st none none none none).set 3 (some (.int (waysV n us q st))) = BW L st (some (.int (waysV n us q st))) none none none := rfl
        rw [← ls]
        generalize mMeth [(("Passes" : Str), m_Passes_ways f)] "ways" (mVar 0) (mCons (mVar 5) (mCons (mVar 6) (mNil))) = MW at *
        generalize (nextF n us q st).map (fun s => D.tup [.int s, stD (behF us st s)]) = ND at *
        generalize ((nextF n us q st).map fun s => waysV n us q (behF us st s)).map D.int = WD0 at *
        generalize BW L st none none none none = BB at *
        generalize S.set (L + 1 + 2 * n) (.dcn kn2) = S2 at *
        simp [-r_meth, mm, wl, e1, sf]
      have c4 : sSubN (mFld [("Passes" : Str)] "known" (mVar 0)) (mTup (mCons (mVar 1) (mCons (mVar 2) (mNil)))) (mVar 3) (BW L st (some (.int (waysV n us q st))) none none none) (S.set (L + 1 + 2 * n) (.dcn kn2)) = .nx (BW L st (some (.int (waysV n us q st))) none none none) (S.set (L + 1 + 2 * n) (.dcn kn3)) := by
        have f1 := fld _ kn2 (BW L st (some (.int (waysV n us q st))) none none none) h2 rfl
        have k1 := key (some (.int (waysV n us q st))) none none none (S.set (L + 1 + 2 * n) (.dcn kn2))
        have v3 : mVar 3 (BW L st (some (.int (waysV n us q st))) none none none) (S.set (L + 1 + 2 * n) (.dcn kn2)) = .ok (.int (waysV n us q st)) (S.set (L + 1 + 2 * n) (.dcn kn2)) := rfl
        have st1 : fSetN (.ref (L + 1 + 2 * n)) (stD st) (.int (waysV n us q st)) (S.set (L + 1 + 2 * n) (.dcn kn2)) = .ok () (S.set (L + 1 + 2 * n) (.dcn kn3)) := by
          unfold fSetN
          dsimp only
          rw [h2.known]
          dsimp only
          rw [tkey_stD, need_some, show smallN kn2.length = true from decide_eq_true (by omega), guardO_true, ← hkn3, List.set_set]
        unfold sSubN
        generalize mTup (mCons (mVar 1) (mCons (mVar 2) (mNil))) = KE at *
        generalize BW L st (some (.int (waysV n us q st))) none none none = BB at *
        generalize S.set (L + 1 + 2 * n) (.dcn kn2) = S2 at *
        generalize stD st = SD0 at *
        simp [-r_fld, -r_var, f1, k1, v3, st1]
      refine ⟨kn3, ?_, m3, by omega⟩
      show mDef 7 3 (b_Passes_ways (m_Passes_ways f)) _ S = _
      have tin : ∀ ms, sIf (mB (mOp fNotInN (mTup (mCons (mVar 1) (mCons (mVar 2) (mNil)))) (mFld [("Passes" : Str)] "known" (mVar 0)))) ms sNil (BW L st none none none none) S = ms (BW L st none none none none) S := fun ms => by
        have f1 := fld S kn (BW L st none none none none) h rfl
        have k1 := key none none none none S
        have x1 := isin S kn h
        rw [hin] at x1
        generalize mTup (mCons (mVar 1) (mCons (mVar 2) (mNil))) = KE at *
        generalize BW L st none none none none = BB at *
        generalize stD st = SD0 at *
        simp [-r_fld, f1, k1, fNotInN, x1]
      refine def_chg (X := []) rfl (by simp) (cutC_set (c := .dcn kn3) (memoW_cell m3 _)) ?_ (thaw_ok rfl)
      rw [List.append_nil]
      exact (sCons_nx (c1 _)).trans ((sCons_nx ((tin _).trans ((sCons_nx c3).trans ((sCons_nx c4).trans rfl)))).trans (sCons_rt (ret _ kn3 _ _ _ _ h3 k3)))
end

end Law

set_option Elab.async false
set_option linter.all false
set_option maxRecDepth 100000
set_option maxHeartbeats 2000000
namespace Law
open PySem PySem.Spec PyProof.Rows L2 Md
/-! ### the first order -/
abbrev itD (e : List Int × Stg) : D := .tup [.tup (e.1.map D.int), stD e.2]
theorem okD_it {e : List Int × Stg} : okD (itD e) = true := by simp [okD, okL, okL_ints]
theorem dep_ints {ns : List Int} : depL (ns.map D.int) ≤ 0 := depL_map (n := 0) fun _ _ => Nat.le_refl _
theorem dep_it {e : List Int × Stg} : dep (itD e) ≤ 4 := by
  have h1 := dep_ints (ns := e.1)
  have h2 := dep_ints (ns := e.2.2)
  simp only [dep, depL]
  omega
theorem eqR_its {S : Sto} {l : Nat} {es : List (List Int × Stg)} (h : S[l]? = some (.lst (es.map itD))) : eqD S (.ref l) (.lst []) = some es.isEmpty := by
  rw [eqD_nil h (okL_map fun _ _ => okD_it) (Nat.le_trans (depL_map fun _ _ => dep_it) (by decide)), List.isEmpty_map]
/-- the steps from which the end can be reached -/
def goF (n : Nat) (us : List T3) (q : Bool) (st : Stg) : List Int := (nextF n us q st).filter fun s => decide (0 < waysV n us q (behF us st s))
theorem ways_pos {n : Nat} {us : List T3} {q : Bool} {st : Stg} : decide (0 < waysV n us q st) = !(compS n us q st).isEmpty := by
  unfold waysV
  generalize compS n us q st = l
  cases l with
  | nil => rfl
  | cons a l => simp only [List.length_cons, List.isEmpty_cons, Bool.not_false, decide_eq_true_eq]; omega
theorem go_head {n : Nat} {us : List T3} {q : Bool} {st : Stg} {k : Nat} (h : remF n st.1 = k + 1) : (compS n us q st).head? = match goF n us q st with
    | [] => none
    | s :: _ => ((compS n us q (behF us st s)).head?).map (s :: ·) := by
  rw [comp_step h]
  unfold goF
  generalize nextF n us q st = ss
  induction ss with
  | nil => rfl
  | cons s ss ih =>
    rw [List.flatMap_cons, List.filter_cons, ways_pos]
    cases hc : compS n us q (behF us st s) with
    | nil => simpa using ih
    | cons a r => simp [hc]
theorem go_sub {n : Nat} {us : List T3} {q : Bool} {st : Stg} {s : Int} (h : s ∈ goF n us q st) : s ∈ nextF n us q st ∧ compS n us q (behF us st s) ≠ [] := by
  obtain ⟨h1, h2⟩ := List.mem_filter.mp h
  rw [ways_pos] at h2
  exact ⟨h1, fun z => by rw [z] at h2; cases h2⟩
def sumE : Nat → Nat
  | 0 => 0
  | k + 1 => entN (k + 1) + sumE k
theorem sum_ok : ∀ k, k ≤ 10 → sumE k ≤ 16000000 := by decide
section
variable {n : Nat} {us : List T3} {q : Bool} {L : Nat} {S : Sto} {kn pk : List (D × D)}
abbrev BO (L : Nat) (w t2 t3 t4 t5 t6 t7 t8 : Option D) : Md.Loc := [some (.ref L), w, t2, t3, t4, t5, t6, t7, t8]
abbrev pairD (us : List T3) (st : Stg) (s : Int) : D := .tup [.int s, stD (behF us st s)]
noncomputable abbrev pickE : ED := mLcF finL (mSeq (mMeth [(("Passes" : Str), m_Passes_nexts)] "nexts" (mVar 0) (mCons (mVar 3) (mCons (mVar 4) (mNil))))) (mgName 6) (mB (mOp fGt (mMeth [(("Passes" : Str), (m_Passes_ways 12))] "ways" (mVar 0) (mCons (mOp fIx (mOp fIx (mVar 6) (mC (.int 1))) (mC (.int 0))) (mCons (mOp fIx (mOp fIx (mVar 6) (mC (.int 1))) (mC (.int 1))) (mNil)))) (mC (.int 0)))) (mVar 6) [6]
theorem pick_run {k : Nat} {st : Stg} {x : Cell} {w t2 t5 t6 t7 t8 : Option D} (hn : n ≤ 10) (hz : us.length ≤ 1000) (hu : ∀ u ∈ us, 0 ≤ u.2.1) (hk : remF n st.1 = k + 1) (hk2 : k < 11) (ho : StOk n st) (hl : st.2.length + k < 1000) (h : PassAt n us q L S kn pk) (m : MemoW n us q kn) (he : kn.length + entN (k + 1) ≤ 16000000) :
    ∃ kn', pickE (BO L w t2 (some (.int (st.1 : Int))) (some (.tup (st.2.map D.int))) t5 t6 t7 t8) (S ++ [x]) = .ok (.lst ((goF n us q st).map (pairD us st))) (S.set (L + 1 + 2 * n) (.dcn kn') ++ [x]) ∧ MemoW n us q kn' ∧ kn'.length ≤ kn.length + entN (k + 1) := by
  have hb : ∀ s ∈ nextF n us q st, StOk n (behF us st s) := fun s hs => ho.beh (by omega) (next_mem hs).1
  have nl : (nextF n us q st).length ≤ k + 1 := by rw [← hk]; exact next_len
  have mul : (nextF n us q st).length * entN k ≤ (k + 1) * entN k := Nat.mul_le_mul_right _ nl
  have ee : entN (k + 1) = 1 + (k + 1) * entN k := rfl
  have h0 : PassAt n us q L (S ++ [x]) kn pk := h.app
  have nr := nexts_run hn hz hu h0 ho.l
  have lc := lc_to (ok := cellOk ⟨[], (nextF n us q st).map (pairD us st)⟩) (mg := mgName 6) (mt := mB (mOp fGt (mMeth [(("Passes" : Str), (m_Passes_ways 12))] "ways" (mVar 0) (mCons (mOp fIx (mOp fIx (mVar 6) (mC (.int 1))) (mC (.int 0))) (mCons (mOp fIx (mOp fIx (mVar 6) (mC (.int 1))) (mC (.int 1))) (mNil)))) (mC (.int 0)))) (me := mVar 6) (lw := BO L w t2 (some (.int (st.1 : Int))) (some (.tup (st.2.map D.int))) t5 none t7 t8) ((nextF n us q st).map (pairD us st))
    (fun i a S' => a = (((nextF n us q st).take i).filter fun s => decide (0 < waysV n us q (behF us st s))).map (pairD us st) ∧ ∃ kn', S' = S.set (L + 1 + 2 * n) (.dcn kn') ++ [x] ∧ MemoW n us q kn' ∧ kn'.length ≤ kn.length + i * entN k) (S := S ++ [x]) ⟨rfl, kn, by rw [h.sameK], m, by simp⟩ (fun _ _ _ _ _ => rfl) fun i d a S' hd p => by
      obtain ⟨rfl, kn', rfl, m', l'⟩ := p
      rw [List.getElem?_map] at hd
      obtain ⟨s, hs, rfl⟩ := Option.map_eq_some_iff.mp hd
      have hil : i < (nextF n us q st).length := (List.getElem?_eq_some_iff.mp hs).1
      have hsn : s ∈ nextF n us q st := List.mem_of_getElem? hs
      obtain ⟨a1, a2, _⟩ := next_mem hsn
      have := rem_set a1 a2
      have bl : (behF us st s).2.length ≤ st.2.length + 1 := by
        show ((st.2 ++ [s]).filter _).length ≤ _
        refine Nat.le_trans List.filter_sublist.length_le ?_
        simp
      have h1 : PassAt n us q L (S.set (L + 1 + 2 * n) (.dcn kn') ++ [x]) kn' pk := h.putK.app
      have e1 : (i + 1) * entN k = i * entN k + entN k := Nat.succ_mul _ _
      have e2 : (i + 1) * entN k ≤ (k + 1) * entN k := Nat.mul_le_mul_right _ (by omega)
      obtain ⟨kn2, r1, m2, l2⟩ := ways_run hn hz hu k 12 (behF us st s) _ kn' (by show remF n (setB st.1 s) = k; omega) (by omega) (hb s hsn) (by omega) h1 m' (by omega)
      rw [set_setP h.ltK] at r1
      have tk : (nextF n us q st).take (i + 1) = (nextF n us q st).take i ++ [s] := by rw [List.take_succ, hs]; rfl
      obtain ⟨lo, hlo⟩ : ∃ lo, lo = BO L w t2 (some (.int (st.1 : Int))) (some (.tup (st.2.map D.int))) t5 (some (pairD us st s)) t7 t8 := ⟨_, rfl⟩
      have l0 : ∀ S, mVar 6 lo S = .ok (pairD us st s) S := fun _ => by rw [hlo]; rfl
      have mm := (meth_run (m := m_Passes_ways 12) (qn := "ways") (mo := mVar 0) (ml := mCons (mOp fIx (mOp fIx (mVar 6) (mC (.int 1))) (mC (.int 0))) (mCons (mOp fIx (mOp fIx (mVar 6) (mC (.int 1))) (mC (.int 1))) (mNil))) (loc := lo) (ds := [.int ((behF us st s).1 : Int), .tup ((behF us st s).2.map D.int)]) h1.inst pf_ways (by rw [hlo]; rfl) (by rw [hlo]; rfl)).trans r1
      refine ⟨lo, by rw [hlo]; rfl, ?_⟩
      have tst : mB (mOp fGt (mMeth [(("Passes" : Str), (m_Passes_ways 12))] "ways" (mVar 0) (mCons (mOp fIx (mOp fIx (mVar 6) (mC (.int 1))) (mC (.int 0))) (mCons (mOp fIx (mOp fIx (mVar 6) (mC (.int 1))) (mC (.int 1))) (mNil)))) (mC (.int 0))) lo (S.set (L + 1 + 2 * n) (.dcn kn') ++ [x]) = .ok (decide (0 < waysV n us q (behF us st s))) (S.set (L + 1 + 2 * n) (.dcn kn2) ++ [x]) := by
        generalize mMeth [(("Passes" : Str), (m_Passes_ways 12))] "ways" (mVar 0) (mCons (mOp fIx (mOp fIx (mVar 6) (mC (.int 1))) (mC (.int 0))) (mCons (mOp fIx (mOp fIx (mVar 6) (mC (.int 1))) (mC (.int 1))) (mNil))) = MW at *
        simp [mm]
      by_cases hp : 0 < waysV n us q (behF us st s)
      · right
        refine ⟨_, by rw [tst, decide_eq_true hp], ?_, ?_⟩
        · have := (List.filter_sublist (l := (nextF n us q st).take i) (p := fun s => decide (0 < waysV n us q (behF us st s)))).length_le
          simp at this ⊢
          omega
        · rw [l0]
          refine ⟨_, _, rfl, ?_, kn2, rfl, m2, by omega⟩
          rw [tk, List.filter_append, List.map_append, List.filter_cons, decide_eq_true hp]
          rfl
      · left
        refine ⟨_, by rw [tst, decide_eq_false hp], ?_, kn2, rfl, m2, by omega⟩
        rw [tk, List.filter_append, List.filter_cons, decide_eq_false hp]
        simp
  rw [List.length_map] at lc
  obtain ⟨a, S1, e1, rfl, kn2, rfl, m2, l2⟩ := lc
  rw [List.take_length] at e1
  refine ⟨kn2, ?_, m2, by omega⟩
  have mm := meth_run (m := m_Passes_nexts) (qn := "nexts") (mo := mVar 0) (ml := mCons (mVar 3) (mCons (mVar 4) (mNil))) (loc := BO L w t2 (some (.int (st.1 : Int))) (some (.tup (st.2.map D.int))) t5 t6 t7 t8) (ds := [.int (st.1 : Int), .tup (st.2.map D.int)]) h0.inst pf_nexts rfl rfl
  rw [nr] at mm
  have wl : wipeL (BO L w t2 (some (.int (st.1 : Int))) (some (.tup (st.2.map D.int))) t5 t6 t7 t8) [6] = BO L w t2 (some (.int (st.1 : Int))) (some (.tup (st.2.map D.int))) t5 none t7 t8 := rfl
  have sq : ∀ S, seqOf S (.lst ((nextF n us q st).map (pairD us st))) = some ((nextF n us q st).map (pairD us st)) := fun _ => rfl
  unfold pickE goF
  show ((mSeq (mMeth [(("Passes" : Str), m_Passes_nexts)] "nexts" (mVar 0) (mCons (mVar 3) (mCons (mVar 4) (mNil))))) _ _).bind _ = _
  rw [show (mSeq (mMeth [(("Passes" : Str), m_Passes_nexts)] "nexts" (mVar 0) (mCons (mVar 3) (mCons (mVar 4) (mNil))))) (BO L w t2 (some (.int (st.1 : Int))) (some (.tup (st.2.map D.int))) t5 t6 t7 t8) (S ++ [x]) = .ok ⟨[], (nextF n us q st).map (pairD us st)⟩ (S ++ [x]) by
    show (mMeth [(("Passes" : Str), m_Passes_nexts)] "nexts" (mVar 0) (mCons (mVar 3) (mCons (mVar 4) (mNil))) _ _).bind _ = _
    rw [mm]; rfl, Out.bind_ok, wl, e1]
  rfl
noncomputable abbrev moreE : ED := mLcF finL (mSeq (mRevG (mVar 5))) (mgTup 2 (mgCons (mgName 7) (mgCons (mgName 8) (mgNil)))) (mYes) (mTup (mCons (mOp fAdd (mVar 2) (mTup (mCons (mVar 7) (mNil)))) (mCons (mVar 8) (mNil)))) [7, 8]
theorem more_run {st : Stg} {pre ss : List Int} {w t3 t4 t6 t7 t8 : Option D} {T : Sto} (hs : ss.length ≤ 1000) (hp : pre.length ≤ 1000) :
    moreE (BO L w (some (.tup (pre.map D.int))) t3 t4 (some (.lst (ss.map (pairD us st)))) t6 t7 t8) T = .ok (.lst ((ss.reverse.map fun s => (pre ++ [s], behF us st s)).map itD)) T := by
  have lc := lc_map (ok := cellOk ⟨[], (ss.map (pairD us st)).reverse⟩) (mg := mgTup 2 (mgCons (mgName 7) (mgCons (mgName 8) (mgNil)))) (me := mTup (mCons (mOp fAdd (mVar 2) (mTup (mCons (mVar 7) (mNil)))) (mCons (mVar 8) (mNil)))) (lw := BO L w (some (.tup (pre.map D.int))) t3 t4 (some (.lst (ss.map (pairD us st)))) t6 none none) (S := T) rfl
    (fun d => match d with | .tup [.int s, b] => D.tup [.tup (pre.map D.int ++ [.int s]), b] | d => d) ((ss.map (pairD us st)).reverse) (by simp; omega) fun d hd => by
    rw [List.mem_reverse] at hd
    obtain ⟨s, _, rfl⟩ := List.mem_map.mp hd
    refine ⟨BO L w (some (.tup (pre.map D.int))) t3 t4 (some (.lst (ss.map (pairD us st)))) t6 (some (.int s)) (some (stD (behF us st s))), rfl, ?_⟩
    have sz : (pre.map D.int).length ≤ 999999 := by simp; omega
    dsimp only
    generalize stD (behF us st s) = B
    generalize ss.map (pairD us st) = SS at *
    generalize pre.map D.int = PP at *
    simp [sz]
  have e2 : ((ss.map (pairD us st)).reverse).map (fun d => match d with | .tup [.int s, b] => D.tup [.tup (pre.map D.int ++ [.int s]), b] | d => d) = (ss.reverse.map fun s => (pre ++ [s], behF us st s)).map itD := by
    rw [← List.map_reverse, List.map_map, List.map_map]
    refine List.map_congr_left fun s _ => ?_
    show D.tup [.tup (pre.map D.int ++ [.int s]), _] = D.tup [.tup ((pre ++ [s]).map D.int), _]
    rw [List.map_append]; rfl
  rw [e2] at lc
  unfold moreE
  generalize mTup (mCons (mOp fAdd (mVar 2) (mTup (mCons (mVar 7) (mNil)))) (mCons (mVar 8) (mNil))) = ME at *
  generalize (ss.reverse.map fun s => (pre ++ [s], behF us st s)).map itD = RR at *
  generalize ss.map (pairD us st) = SS at *
  generalize pre.map D.int = PP at *
  simp [wipeL, mRevG, tupOf, lc]
noncomputable abbrev orBody : SD := (sCons (sPl (sAsg (mgTup 2 (mgCons (mgName 2) (mgCons (mgTup 2 (mgCons (mgName 3) (mgCons (mgName 4) (mgNil)))) (mgNil)))) (mMet "list" fPop (mVar 1) mNil)))
    (sCons (sIf (mTru (mMeth [(("Passes" : Str), m_Passes_is_done)] "is_done" (mVar 0) (mCons (mVar 3) (mNil))))
    (sCons (sRet (mVar 2))
    (sNil))
    (sCons (sPl (sSet 5 pickE))
    (sCons (sPl (sExpr (mMet "list" fExtend (mVar 1) (mCons moreE (mNil)))))
    (sNil))))
    (sNil)))
theorem pop_its {st : Stg} {pre : List Int} {J : List (List Int × Stg)} {S : Sto} : fPop (.ref S.length) [] (S ++ [.lst ((J ++ [(pre, st)]).map itD)]) = .ok (itD (pre, st)) (S ++ [.lst (J.map itD)]) := by
  unfold fPop
  have c : cellL (S ++ [Cell.lst ((J ++ [(pre, st)]).map itD)]) (.ref S.length) = some (S.length, (J ++ [(pre, st)]).map itD) := by unfold cellL; simp
  dsimp only
  rw [c, need_some, List.map_append]
  dsimp only
  rw [show (J.map itD ++ [(pre, st)].map itD)[(J.map itD ++ [(pre, st)].map itD).length - 1]? = some (itD (pre, st)) by simp, need_some]
  rw [show (J.map itD ++ [(pre, st)].map itD).dropLast = J.map itD by simp]
  rw [set_end]
theorem ext_its {A B : List D} {S : Sto} (h : A.length + B.length ≤ 1000000) : fExtend (.ref S.length) [.lst B] (S ++ [.lst A]) = .ok .non (S ++ [.lst (A ++ B)]) := by
  unfold fExtend
  have c : cellL (S ++ [Cell.lst A]) (.ref S.length) = some (S.length, A) := by unfold cellL; simp
  dsimp only
  rw [c, need_some, show lstOf (S ++ [Cell.lst A]) (.lst B) = some B from rfl, need_some, show small (A.length + B.length) = true from decide_eq_true h, guardO_true, set_end]
theorem lst_end {A : List D} {S : Sto} : tyIs (S ++ [Cell.lst A]) (.ref S.length) "list" = true := by unfold tyIs lstOf; simp
theorem take_top {st : Stg} {pre : List Int} {J : List (List Int × Stg)} {S : Sto} {t2 t3 t4 t5 t6 t7 t8 : Option D} : sPl (sAsg (mgTup 2 (mgCons (mgName 2) (mgCons (mgTup 2 (mgCons (mgName 3) (mgCons (mgName 4) (mgNil)))) (mgNil)))) (mMet "list" fPop (mVar 1) mNil)) (BO L (some (.ref S.length)) t2 t3 t4 t5 t6 t7 t8) (S ++ [.lst ((J ++ [(pre, st)]).map itD)]) =
    .nx (BO L (some (.ref S.length)) (some (encR pre)) (some (.int (st.1 : Int))) (some (.tup (st.2.map D.int))) t5 t6 t7 t8) (S ++ [.lst (J.map itD)]) := by
  have e : mMet "list" fPop (mVar 1) mNil (BO L (some (.ref S.length)) t2 t3 t4 t5 t6 t7 t8) (S ++ [.lst ((J ++ [(pre, st)]).map itD)]) = .ok (itD (pre, st)) (S ++ [.lst (J.map itD)]) := by
    have p := pop_its (st := st) (pre := pre) (J := J) (S := S)
    have y := lst_end (A := (J ++ [(pre, st)]).map itD) (S := S)
    generalize (J ++ [(pre, st)]).map itD = A at *
    generalize itD (pre, st) = I at *
    simp [y, p]
  show noRt ((mMet "list" fPop (mVar 1) mNil _ _).thn _ _) = _
  rw [e]
  rfl
theorem turn_run {k : Nat} {st : Stg} {pre : List Int} {J : List (List Int × Stg)} {t2 t3 t4 t5 t6 t7 t8 : Option D} (hn : n ≤ 10) (hz : us.length ≤ 1000) (hu : ∀ u ∈ us, 0 ≤ u.2.1) (hk : remF n st.1 = k + 1) (hk2 : k < 10) (ho : StOk n st) (hl : st.2.length + k < 1000) (hp : pre.length ≤ 1000) (hj : J.length + k ≤ 2000) (h : PassAt n us q L S kn pk) (m : MemoW n us q kn) (he : kn.length + entN (k + 1) ≤ 16000000) :
    ∃ kn' u2 u3 u4 u5, orBody (BO L (some (.ref S.length)) t2 t3 t4 t5 t6 t7 t8) (S ++ [.lst ((J ++ [(pre, st)]).map itD)]) = .nx (BO L (some (.ref S.length)) u2 u3 u4 u5 t6 t7 t8) (S.set (L + 1 + 2 * n) (.dcn kn') ++ [.lst ((J ++ (goF n us q st).reverse.map fun s => (pre ++ [s], behF us st s)).map itD)]) ∧ MemoW n us q kn' ∧ kn'.length ≤ kn.length + entN (k + 1) := by
  have h0 : PassAt n us q L (S ++ [.lst (J.map itD)]) kn pk := h.app
  obtain ⟨kn', r1, m1, l1⟩ := pick_run (x := .lst (J.map itD)) (w := some (.ref S.length)) (t2 := some (encR pre)) (t5 := t5) (t6 := t6) (t7 := t7) (t8 := t8) hn hz hu hk (by omega) ho hl h m he
  have gl : (goF n us q st).length ≤ k + 1 := by
    refine Nat.le_trans List.filter_sublist.length_le ?_
    rw [← hk]; exact next_len
  refine ⟨kn', some (encR pre), some (.int (st.1 : Int)), some (.tup (st.2.map D.int)), some (.lst ((goF n us q st).map (pairD us st))), ?_, m1, l1⟩
  have hd := done_run (b := st.1) hn h0
  rw [decide_eq_false (fun z => by have := (rem_zero ho.b).mpr z; omega)] at hd
  have md := meth_run (m := m_Passes_is_done) (qn := "is_done") (mo := mVar 0) (ml := mCons (mVar 3) (mNil)) (loc := BO L (some (.ref S.length)) (some (encR pre)) (some (.int (st.1 : Int))) (some (.tup (st.2.map D.int))) t5 t6 t7 t8) (ds := [.int (st.1 : Int)]) h0.inst pf_done rfl rfl
  rw [hd] at md
  have c1 : ∀ a b, sIf (mTru (mMeth [(("Passes" : Str), m_Passes_is_done)] "is_done" (mVar 0) (mCons (mVar 3) (mNil)))) a b (BO L (some (.ref S.length)) (some (encR pre)) (some (.int (st.1 : Int))) (some (.tup (st.2.map D.int))) t5 t6 t7 t8) (S ++ [.lst (J.map itD)]) = b (BO L (some (.ref S.length)) (some (encR pre)) (some (.int (st.1 : Int))) (some (.tup (st.2.map D.int))) t5 t6 t7 t8) (S ++ [.lst (J.map itD)]) := fun a b => by
    generalize BO L (some (.ref S.length)) (some (encR pre)) (some (.int (st.1 : Int))) (some (.tup (st.2.map D.int))) t5 t6 t7 t8 = BB at *
    simp [-r_meth, md, truD]
  have c2 : sPl (sSet 5 pickE) (BO L (some (.ref S.length)) (some (encR pre)) (some (.int (st.1 : Int))) (some (.tup (st.2.map D.int))) t5 t6 t7 t8) (S ++ [.lst (J.map itD)]) = .nx (BO L (some (.ref S.length)) (some (encR pre)) (some (.int (st.1 : Int))) (some (.tup (st.2.map D.int))) (some (.lst ((goF n us q st).map (pairD us st)))) t6 t7 t8) (S.set (L + 1 + 2 * n) (.dcn kn') ++ [.lst (J.map itD)]) := by
    show noRt ((pickE _ _).thn _ _) = _
    rw [r1]; rfl
  have mr := more_run (L := L) (us := us) (st := st) (pre := pre) (ss := goF n us q st) (w := some (.ref S.length)) (t3 := some (.int (st.1 : Int))) (t4 := some (.tup (st.2.map D.int))) (t6 := t6) (t7 := t7) (t8 := t8) (T := S.set (L + 1 + 2 * n) (.dcn kn') ++ [.lst (J.map itD)]) (by omega) hp
  have c3 : sPl (sExpr (mMet "list" fExtend (mVar 1) (mCons moreE (mNil)))) (BO L (some (.ref S.length)) (some (encR pre)) (some (.int (st.1 : Int))) (some (.tup (st.2.map D.int))) (some (.lst ((goF n us q st).map (pairD us st)))) t6 t7 t8) (S.set (L + 1 + 2 * n) (.dcn kn') ++ [.lst (J.map itD)]) = .nx (BO L (some (.ref S.length)) (some (encR pre)) (some (.int (st.1 : Int))) (some (.tup (st.2.map D.int))) (some (.lst ((goF n us q st).map (pairD us st)))) t6 t7 t8) (S.set (L + 1 + 2 * n) (.dcn kn') ++ [.lst ((J ++ (goF n us q st).reverse.map fun s => (pre ++ [s], behF us st s)).map itD)]) := by
    have ex := ext_its (A := J.map itD) (B := ((goF n us q st).reverse.map fun s => (pre ++ [s], behF us st s)).map itD) (S := S.set (L + 1 + 2 * n) (.dcn kn')) (by simp; omega)
    have y := lst_end (A := J.map itD) (S := S.set (L + 1 + 2 * n) (.dcn kn'))
    rw [List.length_set] at ex y
    rw [List.map_append]
    have v1 : ∀ T, mVar 1 (BO L (some (.ref S.length)) (some (encR pre)) (some (.int (st.1 : Int))) (some (.tup (st.2.map D.int))) (some (.lst ((goF n us q st).map (pairD us st)))) t6 t7 t8) T = .ok (.ref S.length) T := fun _ => rfl
    generalize ((goF n us q st).reverse.map fun s => (pre ++ [s], behF us st s)).map itD = B at *
    generalize BO L (some (.ref S.length)) (some (encR pre)) (some (.int (st.1 : Int))) (some (.tup (st.2.map D.int))) (some (.lst ((goF n us q st).map (pairD us st)))) t6 t7 t8 = BB at *
    generalize moreE = ME at *
    generalize S.set (L + 1 + 2 * n) (.dcn kn') ++ [Cell.lst (J.map itD)] = S2 at *
    simp [-r_var, v1, y, mr, ex]
  exact (sCons_nx take_top).trans ((sCons_nx ((c1 _ _).trans ((sCons_nx c2).trans ((sCons_nx c3).trans rfl)))).trans rfl)
theorem its_ne {J : List (List Int × Stg)} {S : Sto} {t2 t3 t4 t5 t6 t7 t8 : Option D} : mB (mOp fNe (mVar 1) (mLst (mNil))) (BO L (some (.ref S.length)) t2 t3 t4 t5 t6 t7 t8) (S ++ [.lst (J.map itD)]) = .ok (!J.isEmpty) (S ++ [.lst (J.map itD)]) := by
  have e := eqR_its (S := S ++ [.lst (J.map itD)]) (l := S.length) (es := J) (by simp)
  generalize J.map itD = A at *
  simp [e]
theorem ord_loop (hn : n ≤ 10) (hz : us.length ≤ 1000) (hu : ∀ u ∈ us, 0 ≤ u.2.1) : ∀ (k fuel : Nat) (st : Stg) (pre : List Int) (J : List (List Int × Stg)) (S : Sto) (kn : List (D × D)) (t2 t3 t4 t5 t6 t7 t8 : Option D), remF n st.1 = k → k < fuel → k ≤ 10 → StOk n st → st.2.length + k ≤ 1000 → pre.length + k ≤ 1000 → J.length + k * 10 ≤ 1000 → PassAt n us q L S kn pk → MemoW n us q kn → kn.length + sumE k ≤ 16000000 → ∀ r, (compS n us q st).head? = some r →
    ∃ kn' z, sWhile (mB (mOp fNe (mVar 1) (mLst (mNil)))) orBody fuel (BO L (some (.ref S.length)) t2 t3 t4 t5 t6 t7 t8) (S ++ [.lst ((J ++ [(pre, st)]).map itD)]) = .rt (encR (pre ++ r)) (S.set (L + 1 + 2 * n) (.dcn kn') ++ [z]) ∧ MemoW n us q kn' := by
  intro k
  induction k with
  | zero =>
    intro fuel st pre J S kn t2 t3 t4 t5 t6 t7 t8 hk hf _ ho hl hp hj h m he r hr
    obtain ⟨f, rfl⟩ : ∃ f, fuel = f + 1 := ⟨fuel - 1, by omega⟩
    have hr0 : r = [] := by
      have : compS n us q st = [[]] := by unfold compS; rw [hk]; rfl
      rw [this] at hr
      exact (Option.some.inj hr).symm
    subst hr0
    refine ⟨kn, .lst (J.map itD), ?_, m⟩
    rw [h.sameK, List.append_nil]
    have h0 : PassAt n us q L (S ++ [.lst (J.map itD)]) kn pk := h.app
    have hd := done_run (b := st.1) hn h0
    rw [decide_eq_true ((rem_zero ho.b).mp hk)] at hd
    have md := meth_run (m := m_Passes_is_done) (qn := "is_done") (mo := mVar 0) (ml := mCons (mVar 3) (mNil)) (loc := BO L (some (.ref S.length)) (some (encR pre)) (some (.int (st.1 : Int))) (some (.tup (st.2.map D.int))) t5 t6 t7 t8) (ds := [.int (st.1 : Int)]) h0.inst pf_done rfl rfl
    rw [hd] at md
    have c1 : ∀ a b, sIf (mTru (mMeth [(("Passes" : Str), m_Passes_is_done)] "is_done" (mVar 0) (mCons (mVar 3) (mNil)))) a b (BO L (some (.ref S.length)) (some (encR pre)) (some (.int (st.1 : Int))) (some (.tup (st.2.map D.int))) t5 t6 t7 t8) (S ++ [.lst (J.map itD)]) = a (BO L (some (.ref S.length)) (some (encR pre)) (some (.int (st.1 : Int))) (some (.tup (st.2.map D.int))) t5 t6 t7 t8) (S ++ [.lst (J.map itD)]) := fun a b => by
      generalize BO L (some (.ref S.length)) (some (encR pre)) (some (.int (st.1 : Int))) (some (.tup (st.2.map D.int))) t5 t6 t7 t8 = BB at *
      simp [-r_meth, md, truD]
    have bd : orBody (BO L (some (.ref S.length)) t2 t3 t4 t5 t6 t7 t8) (S ++ [.lst ((J ++ [(pre, st)]).map itD)]) = .rt (encR pre) (S ++ [.lst (J.map itD)]) := (sCons_nx take_top).trans (sCons_rt ((c1 _ _).trans (sCons_rt rfl)))
    show ((mB (mOp fNe (mVar 1) (mLst (mNil))) _ _).thn _ _) = _
    rw [its_ne, show (J ++ [(pre, st)]).isEmpty = false by cases J <;> rfl]
    show loopS (orBody _ _) _ = _
    rw [bd]; rfl
  | succ k ih =>
    intro fuel st pre J S kn t2 t3 t4 t5 t6 t7 t8 hk hf hk10 ho hl hp hj h m he r hr
    obtain ⟨f, rfl⟩ : ∃ f, fuel = f + 1 := ⟨fuel - 1, by omega⟩
    have se : sumE (k + 1) = entN (k + 1) + sumE k := rfl
    obtain ⟨kn1, u2, u3, u4, u5, tr, m1, l1⟩ := turn_run (pre := pre) (J := J) (t2 := t2) (t3 := t3) (t4 := t4) (t5 := t5) (t6 := t6) (t7 := t7) (t8 := t8) hn hz hu hk (by omega) ho (by omega) (by omega) (by omega) h m (by omega)
    rw [go_head hk] at hr
    have gl : (goF n us q st).length ≤ k + 1 := by
      refine Nat.le_trans List.filter_sublist.length_le ?_
      rw [← hk]; exact next_len
    have gs := fun s => go_sub (n := n) (us := us) (q := q) (st := st) (s := s)
    generalize goF n us q st = G at *
    cases G with
    | nil => cases hr
    | cons s ss =>
      obtain ⟨r2, hr2, rfl⟩ := Option.map_eq_some_iff.mp hr
      obtain ⟨sn, _⟩ := gs s (by simp)
      obtain ⟨b1, b2, _⟩ := next_mem sn
      have hrem := rem_set b1 b2
      have h1 : PassAt n us q L (S.set (L + 1 + 2 * n) (.dcn kn1)) kn1 pk := h.putK
      have bl : (behF us st s).2.length ≤ st.2.length + 1 := by
        show ((st.2 ++ [s]).filter _).length ≤ _
        refine Nat.le_trans List.filter_sublist.length_le ?_
        simp
      have gl2 : ss.length ≤ k := by simpa using gl
      obtain ⟨kn2, z, r3, m3⟩ := ih f (behF us st s) (pre ++ [s]) (J ++ ss.reverse.map fun s => (pre ++ [s], behF us st s)) (S.set (L + 1 + 2 * n) (.dcn kn1)) kn1 u2 u3 u4 u5 t6 t7 t8 (by show remF n (setB st.1 s) = k; omega) (by omega) (by omega) (ho.beh (by omega) b1) (by omega) (by simp; omega) (by simp; omega) h1 m1 (by omega) r2 hr2
      rw [List.set_set, List.length_set] at r3
      refine ⟨kn2, z, ?_, m3⟩
      show ((mB (mOp fNe (mVar 1) (mLst (mNil))) _ _).thn _ _) = _
      rw [its_ne, show (J ++ [(pre, st)]).isEmpty = false by cases J <;> rfl]
      show loopS (orBody _ _) _ = _
      rw [tr]
      show sWhile _ orBody f _ _ = _
      rw [List.reverse_cons, List.map_append (l₁ := ss.reverse), ← List.append_assoc]
      refine r3.trans ?_
      rw [List.append_assoc]; rfl
/-- the first item of the generator orders -/
theorem orders_run (hn : n ≤ 10) (hz : us.length ≤ 1000) (hu : ∀ u ∈ us, 0 ≤ u.2.1) (h : PassAt n us q L S [] pk) : ∃ kn' z, m_Passes_orders [.ref L] S = .ok (((compS n us q st0).head?).map encR) (S.set (L + 1 + 2 * n) (.dcn kn') ++ [z]) ∧ MemoW n us q kn' := by
  have m0 : MemoW n us q [] := fun e he => by cases he
  have i0 : sPl (sSet 1 (mLstO (mCons (mTup (mCons (mTup (mNil)) (mCons (mTup (mCons (mC (.int 0)) (mCons (mTup (mNil)) (mNil)))) (mNil)))) (mNil)))) (startL 9 [.ref L]) S = .nx (BO L (some (.ref S.length)) none none none none none none none) (S ++ [.lst (([] ++ [(([] : List Int), st0)]).map itD)]) := rfl
  have rem0 : remF n st0.1 = n := rem_all
  cases hc : (compS n us q st0).head? with
  | some r =>
    obtain ⟨kn', z, e, m⟩ := ord_loop hn hz hu n fuel st0 [] [] S [] none none none none none none none rem0 (by unfold fuel; omega) hn st0_ok (by show 0 + n ≤ 1000; omega) (by simp; omega) (by simp; omega) h m0 (by have := sum_ok n hn; simp; omega) r hc
    refine ⟨kn', z, ?_, m⟩
    unfold m_Passes_orders mGen1
    rw [if_pos (show [D.ref L].length = 1 from rfl)]
    have body : b_Passes_orders (startL 9 [.ref L]) S = .rt (encR ([] ++ r)) (S.set (L + 1 + 2 * n) (.dcn kn') ++ [z]) := (sCons_nx i0).trans (sCons_rt e)
    rw [body]; rfl
  | none =>
    have hn0 : n ≠ 0 := fun z => by
      subst z
      have : compS 0 us q st0 = [[]] := by unfold compS; rw [rem0]; rfl
      rw [this] at hc; cases hc
    obtain ⟨k, rfl⟩ : ∃ k, n = k + 1 := ⟨n - 1, by omega⟩
    obtain ⟨f, hf⟩ : ∃ f, fuel = f + 2 := ⟨fuel - 2, by unfold fuel; rfl⟩
    obtain ⟨kn1, u2, u3, u4, u5, tr, m1, l1⟩ := turn_run (pre := []) (J := []) (t2 := none) (t3 := none) (t4 := none) (t5 := none) (t6 := none) (t7 := none) (t8 := none) hn hz hu rem0 (by omega) st0_ok (by show 0 + k < 1000; omega) (by simp) (by simp; omega) h m0 (by have := ent_ok (k + 1) hn; simp; omega)
    rw [go_head rem0] at hc
    have gs := fun s => go_sub (n := k + 1) (us := us) (q := q) (st := st0) (s := s)
    generalize goF (k + 1) us q st0 = G at *
    cases G with
    | cons s ss =>
      obtain ⟨_, hne⟩ := gs s (by simp)
      have hc' : ((compS (k + 1) us q (behF us st0 s)).head?).map (s :: ·) = none := hc
      rw [Option.map_eq_none_iff, List.head?_eq_none_iff] at hc'
      exact absurd hc' hne
    | nil =>
      refine ⟨kn1, .lst [], ?_, m1⟩
      unfold m_Passes_orders mGen1
      rw [if_pos (show [D.ref L].length = 1 from rfl)]
      have wh : sWhile (mB (mOp fNe (mVar 1) (mLst (mNil)))) orBody fuel (BO L (some (.ref S.length)) none none none none none none none) (S ++ [.lst (([] ++ [(([] : List Int), st0)]).map itD)]) = .nx (BO L (some (.ref S.length)) u2 u3 u4 u5 none none none) (S.set (L + 1 + 2 * (k + 1)) (.dcn kn1) ++ [.lst []]) := by
        rw [hf]
        show ((mB (mOp fNe (mVar 1) (mLst (mNil))) _ _).thn _ _) = _
        rw [its_ne]
        show loopS (orBody _ _) _ = _
        rw [tr]
        show ((mB (mOp fNe (mVar 1) (mLst (mNil))) _ _).thn _ _) = _
        have z := its_ne (L := L) (J := []) (S := S.set (L + 1 + 2 * (k + 1)) (.dcn kn1)) (t2 := u2) (t3 := u3) (t4 := u4) (t5 := u5) (t6 := none) (t7 := none) (t8 := none)
        rw [List.length_set] at z
        have z' : mB (mOp fNe (mVar 1) (mLst (mNil))) (BO L (some (.ref S.length)) u2 u3 u4 u5 none none none) (S.set (L + 1 + 2 * (k + 1)) (.dcn kn1) ++ [.lst []]) = .ok false (S.set (L + 1 + 2 * (k + 1)) (.dcn kn1) ++ [.lst []]) := z
        show ((mB (mOp fNe (mVar 1) (mLst (mNil))) (BO L (some (.ref S.length)) u2 u3 u4 u5 none none none) (S.set (L + 1 + 2 * (k + 1)) (.dcn kn1) ++ [.lst []])).thn _ _) = _
        rw [z']; rfl
      have body : b_Passes_orders (startL 9 [.ref L]) S = .nx _ _ := (sCons_nx i0).trans ((sCons_nx wh).trans rfl)
      rw [body]; rfl
/-- the first order, None if there is none -/
def optR : Option (List Int) → D
  | some r => encR r
  | none => .non
theorem first_run (hn : n ≤ 10) (hz : us.length ≤ 1000) (hu : ∀ u ∈ us, 0 ≤ u.2.1) (h : PassAt n us q L S [] pk) : ∃ kn', m_Passes_first_order [.ref L] S = .ok (optR (compS n us q st0).head?) (S.set (L + 1 + 2 * n) (.dcn kn')) := by
  obtain ⟨kn', z, e, m⟩ := orders_run hn hz hu h
  refine ⟨kn', ?_⟩
  obtain ⟨F, hF⟩ : ∃ F, F = PFs n q (refsL (L + 1) n) (refsL (L + 1 + n) n) (.ref (L + 1 + 2 * n)) (.ref (L + 2 + 2 * n)) := ⟨_, rfl⟩
  have hi : insOf S (.ref L) = some (L, (("Passes" : Str), F)) := by unfold insOf; dsimp only; rw [h.inst, hF]
  have lk : List.lookup ("orders" : Str) F = none := by rw [hF]; rfl
  have th : ∀ S', thaw 3 S.length S' (optR (compS n us q st0).head?) = some (optR (compS n us q st0).head?) := fun S' => thaw_ok (okD_refs (by
    cases (compS n us q st0).head? with
    | none => rfl
    | some r => show okL _ = true; exact okL_ints))
  refine def_chg (X := [z]) rfl (by simp) (cutC_set (c := .dcn kn') (memoW_cell m _)) ?_ (th _)
  have f1 : sFirst "Passes" "orders" m_Passes_orders (mVar 0) (startL 2 [.ref L]) S = (match ((compS n us q st0).head?).map encR with
      | some v => OutS.rt v (S.set (L + 1 + 2 * n) (.dcn kn') ++ [z])
      | none => .nx (startL 2 [.ref L]) (S.set (L + 1 + 2 * n) (.dcn kn') ++ [z])) := by
    unfold sFirst
    rw [show mVar 0 (startL 2 [.ref L]) S = .ok (.ref L) S from rfl]
    show needS (insOf S (.ref L)) _ = _
    rw [hi]
    show guardS (decide (("Passes" : Str) = "Passes") && (List.lookup ("orders" : Str) F).isNone) _ = _
    rw [lk, e]
    cases (compS n us q st0).head? <;> rfl
  cases hc : (compS n us q st0).head? with
  | some r =>
    rw [hc] at f1
    exact sCons_rt f1
  | none =>
    rw [hc] at f1
    exact (sCons_nx f1).trans (sCons_rt rfl)
end

end Law

set_option Elab.async false
set_option linter.all false
set_option maxRecDepth 100000
set_option maxHeartbeats 2000000
namespace Law
open PySem PySem.Spec PyProof.Rows L2 Md
/-! ### order_of -/
theorem sf_setK {S : Sto} {n : Nat} {q : Bool} {us : List T3} {c : Cell} : ∃ X, (SF S n q us).set (S.length + 1 + 2 * n) c = S ++ X := by
  refine ⟨(.ins "Passes" (PFs n q (refsL (S.length + 1) n) (refsL (S.length + 1 + n) n) (.ref (S.length + 1 + 2 * n)) (.ref (S.length + 2 + 2 * n))) :: (usC us n ++ wnC us n ++ [.dcn [], .dcn []])).set (S.length + 1 + 2 * n - S.length) c, ?_⟩
  rw [List.set_append_right _ _ (by omega)]
theorem orderof_run {n : Nat} {w : Web} {us : List T3} {S : Sto} (hn : n ≤ 10) (hw : WebOk n w) (hu : duesD w = us.map encT) (hup : us.Perm (tiesT w)) :
    ∃ X, m_order_of [encW w] S = .ok (optR (compS w.length us false st0).head?) (S ++ X) := by
  have hlw := hw.1
  have zus : us.length ≤ 1000 := by
    rw [hup.length_eq]
    have := tiesT_len hw w.length (Nat.le_refl _)
    rw [List.take_length] at this
    omega
  have u0 : ∀ u ∈ us, 0 ≤ u.2.1 := fun u h => (gv_range hup hw h).2.2.1
  obtain ⟨kn', r⟩ := first_run (n := w.length) (us := us) (q := false) (L := S.length) (S := SF S w.length false us) (by omega) zus u0 sf_pass
  obtain ⟨X, hX⟩ := sf_setK (S := S) (n := w.length) (q := false) (us := us) (c := .dcn kn')
  refine ⟨X, ?_⟩
  rw [hX] at r
  unfold m_order_of mDefU
  rw [if_pos (show [encW w].length = 1 from rfl)]
  have mk := make_run (q := false) (ml := mCons (mVar 0) (mCons (mC (.bl false)) (mNil))) (loc := startL 1 [encW w]) (S := S) hn hw hu hup rfl
  have hi := (sf_pass (S := S) (n := w.length) (q := false) (us := us)).inst
  have m1 : mMeth [(("Passes" : Str), m_Passes_first_order)] "first_order" (mMake "Passes" m_Passes___init__ (mCons (mVar 0) (mCons (mC (.bl false)) (mNil)))) mNil (startL 1 [encW w]) S = .ok (optR (compS w.length us false st0).head?) (S ++ X) := by
    unfold mMeth
    rw [mk, Out.bind_ok]
    rw [show insOf (SF S w.length false us) (.ref S.length) = some (S.length, (("Passes" : Str), PFs w.length false (refsL (S.length + 1) w.length) (refsL (S.length + 1 + w.length) w.length) (.ref (S.length + 1 + 2 * w.length)) (.ref (S.length + 2 + 2 * w.length)))) by unfold insOf; dsimp only; rw [hi], need_some]
    show need (List.lookup ("Passes" : Str) [(("Passes" : Str), m_Passes_first_order)]) _ = _
    rw [pf_meth, need_some]
    exact r
  have body : b_order_of (startL 1 [encW w]) S = .rt (optR (compS w.length us false st0).head?) (S ++ X) := by
    refine sCons_rt ?_
    show ((mMeth [(("Passes" : Str), m_Passes_first_order)] "first_order" (mMake "Passes" m_Passes___init__ (mCons (mVar 0) (mCons (mC (.bl false)) (mNil)))) mNil _ S).thn _ _) = _
    rw [m1]; rfl
  rw [body]; rfl

end Law

set_option Elab.async false
set_option linter.all false
set_option maxRecDepth 100000
set_option maxHeartbeats 2000000
namespace Law
open PySem PySem.Spec PyProof.Rows L2 Md
/-! ### the law's orders and heights, plainly -/
def levF (w : Web) (us : List T3) (rows : List (List Int)) : List (List Int) := rows.flatMap fun row => (((rangeI w.length).filter fun s => !decide (s ∈ row)).filter (mayB w us row)).map fun s => row ++ [s]
def ordF (w : Web) (us : List T3) : Nat → List (List Int)
  | 0 => [[]]
  | k + 1 => levF w us (ordF w us k)
structure RowOk (n : Nat) (row : List Int) : Prop where
  nd : row.Nodup
  sub : ∀ o ∈ row, o ∈ rangeI n
theorem RowOk.nn {n : Nat} {row : List Int} (h : RowOk n row) : ∀ o ∈ row, 0 ≤ o := fun o ho => (rangeI_mem.mp (h.sub o ho)).1
theorem RowOk.snoc {n : Nat} {row : List Int} {s : Int} (h : RowOk n row) (hs : s ∈ rangeI n) (hn : s ∉ row) : RowOk n (row ++ [s]) := by
  refine ⟨?_, fun o ho => ?_⟩
  · rw [List.nodup_append]
    exact ⟨h.nd, by simp, fun a ha b hb z => hn (by simp at hb; rw [← hb, ← z]; exact ha)⟩
  · rcases List.mem_append.mp ho with ho | ho
    · exact h.sub o ho
    · rw [show o = s by simpa using ho]; exact hs
section
variable {n : Nat} {w : Web} {us : List T3}
theorem next_row {row : List Int} (hw : WebOk n w) (hup : us.Perm (tiesT w)) (h : RowOk w.length row) : ((rangeI w.length).filter fun s => !decide (s ∈ row)).filter (mayB w us row) = nextF w.length us false (stR us row) := by
  unfold nextF
  rw [List.filter_filter]
  apply List.filter_congr
  intro s hs
  have e : inB (stR us row).1 s = decide (s ∈ row) := inB_row (rangeI_mem.mp hs).1 row h.nn
  rw [e]
  by_cases hm : s ∈ row
  · simp [hm]
  · have : mayB w us row s = findsF us false (stR us row) s := by
      rw [Bool.eq_iff_iff, may_iff hup h.nd h.nn, finds_may hw hup h.nd h.nn hs hm, mayQ_pile]
    rw [this]
    simp [hm]
theorem lev_ok {rows : List (List Int)} {k : Nat} (h : ∀ row ∈ rows, RowOk w.length row ∧ row.length = k) : ∀ row ∈ levF w us rows, RowOk w.length row ∧ row.length = k + 1 := by
  intro row hr
  obtain ⟨r0, h1, h2⟩ := List.mem_flatMap.mp hr
  obtain ⟨s, h3, rfl⟩ := List.mem_map.mp h2
  obtain ⟨h4, _⟩ := List.mem_filter.mp h3
  obtain ⟨h5, h6⟩ := List.mem_filter.mp h4
  obtain ⟨a, b⟩ := h r0 h1
  exact ⟨a.snoc h5 (by simpa using h6), by simp [b]⟩
theorem ord_ok : ∀ k, ∀ row ∈ ordF w us k, RowOk w.length row ∧ row.length = k
  | 0 => fun row hr => by
    rw [show row = [] by simpa [ordF] using hr]
    exact ⟨⟨List.nodup_nil, fun o ho => by cases ho⟩, rfl⟩
  | k + 1 => lev_ok (ord_ok k)
theorem flatMap_congr' {α β : Type} {l : List α} {f g : α → List β} (e : ∀ x ∈ l, f x = g x) : l.flatMap f = l.flatMap g := by
  induction l with
  | nil => rfl
  | cons x l ih => rw [List.flatMap_cons, List.flatMap_cons, e x (by simp), ih fun y hy => e y (by simp [hy])]
def levN (w : Web) (us : List T3) : Nat → List (List Int) → List (List Int)
  | 0, rows => rows
  | k + 1, rows => levN w us k (levF w us rows)
theorem levN_snoc : ∀ (k : Nat) (rows : List (List Int)), levN w us (k + 1) rows = levF w us (levN w us k rows)
  | 0, _ => rfl
  | k + 1, rows => by
    show levN w us (k + 1) (levF w us rows) = _
    rw [levN_snoc k]; rfl
theorem ord_levN : ∀ k, ordF w us k = levN w us k [[]]
  | 0 => rfl
  | k + 1 => by rw [levN_snoc, ← ord_levN k]; rfl
theorem flat_id (rows : List (List Int)) : rows = rows.flatMap fun row => [row ++ []] := by
  induction rows with
  | nil => rfl
  | cons a rows ih =>
    rw [List.flatMap_cons, ← ih]
    simp
theorem lev_comp (hw : WebOk n w) (hup : us.Perm (tiesT w)) : ∀ (k j : Nat) (rows : List (List Int)), (∀ row ∈ rows, RowOk w.length row ∧ row.length = j) → levN w us k rows = rows.flatMap fun row => (compF w.length us false k (stR us row)).map fun r => row ++ r
  | 0, _, rows, _ => flat_id rows
  | k + 1, j, rows, h => by
    show levN w us k (levF w us rows) = _
    rw [lev_comp hw hup k (j + 1) _ (lev_ok h)]
    unfold levF
    rw [List.flatMap_assoc]
    refine flatMap_congr' fun row hr => ?_
    rw [next_row hw hup (h row hr).1, List.flatMap_map]
    show _ = ((nextF w.length us false (stR us row)).flatMap fun s => (compF w.length us false k (behF us (stR us row) s)).map (s :: ·)).map fun r => row ++ r
    rw [List.map_flatMap]
    refine flatMap_congr' fun s hs => ?_
    have s0 := (rangeI_mem.mp (next_mem hs).1).1
    rw [stR_snoc (fun u h => (gv_range hup hw h).2.2.1) s0, List.map_map]
    apply List.map_congr_left
    intro r _
    simp
theorem ord_comp (hw : WebOk n w) (hup : us.Perm (tiesT w)) : ordF w us w.length = compS w.length us false st0 := by
  rw [ord_levN, lev_comp hw hup w.length 0 [[]] fun row hr => by
    rw [show row = [] by simpa using hr]
    exact ⟨⟨List.nodup_nil, fun o ho => by cases ho⟩, rfl⟩]
  show ([[]] : List (List Int)).flatMap _ = compF w.length us false (remF w.length 0) st0
  rw [rem_all, List.flatMap_cons, List.flatMap_nil, List.append_nil]
  simp only [List.nil_append, List.map_id']
  rfl
theorem ord_len : ∀ k, (ordF w us k).length ≤ w.length ^ k
  | 0 => Nat.le_refl _
  | k + 1 => by
    have ih := ord_len k
    have : ∀ rows : List (List Int), (levF w us rows).length ≤ rows.length * w.length := fun rows => by
      unfold levF
      induction rows with
      | nil => simp
      | cons a rows ih =>
        rw [List.flatMap_cons, List.length_append, List.length_cons, List.length_map]
        have h1 := (List.filter_sublist (l := (rangeI w.length).filter fun s => !decide (s ∈ a)) (p := mayB w us a)).length_le
        have h2 := (List.filter_sublist (l := rangeI w.length) (p := fun s => !decide (s ∈ a))).length_le
        rw [rangeI_len] at h2
        rw [Nat.succ_mul]
        omega
    have h2 := this (ordF w us k)
    rw [Nat.pow_succ]
    exact Nat.le_trans h2 (Nat.mul_le_mul_right _ ih)
/-- ties that are under way behind a row -/
def hgtF (us : List T3) (row : List Int) : Int := ((us.filter fun u => decide (u.1 ∈ row) && !decide (u.2.1 ∈ row)).length : Nat)
theorem need_len {b : Nat} {g : Int} (hg : 0 ≤ g) : needB us b g = ((us.filter fun u => decide (u.1 = g) && !inB b u.2.1).length : Nat) := by
  unfold needB tkI
  rw [List.filter_map, List.length_map, List.filter_filter]
  congr 2
  apply List.filter_congr
  intro u _
  rw [show ((g.toNat : Nat) : Int) = g by omega]
  simp only [Function.comp]
  rw [Bool.and_comm]
theorem split_len {g : Int} {D : List Int} {p : T3 → Bool} (hn : g ∉ D) : ∀ us : List T3, (us.filter fun u => decide (u.1 = g) && p u).length + (us.filter fun u => decide (u.1 ∈ D) && p u).length = (us.filter fun u => decide (u.1 ∈ g :: D) && p u).length
  | [] => rfl
  | u :: us => by
    have ih := split_len (p := p) hn us
    rw [List.filter_cons, List.filter_cons, List.filter_cons]
    cases hp : p u with
    | false => simpa [hp] using ih
    | true =>
      by_cases e1 : u.1 = g
      · have e2 : u.1 ∉ D := fun z => hn (e1 ▸ z)
        have e3 : u.1 ∈ g :: D := by rw [e1]; simp
        rw [decide_eq_true e1, decide_eq_false e2, decide_eq_true e3]
        simp only [Bool.and_true, Bool.false_eq_true, if_true, if_false, List.length_cons, Bool.and_self]
        omega
      · by_cases e2 : u.1 ∈ D
        · have e3 : u.1 ∈ g :: D := List.mem_cons_of_mem _ e2
          rw [decide_eq_false e1, decide_eq_true e2, decide_eq_true e3]
          simp only [Bool.and_true, Bool.false_eq_true, if_true, if_false, List.length_cons, Bool.and_self]
          omega
        · have e3 : u.1 ∉ g :: D := fun z => (List.mem_cons.mp z).elim e1 e2
          rw [decide_eq_false e1, decide_eq_false e2, decide_eq_false e3]
          simp only [Bool.and_true, Bool.false_eq_true, if_false]
          exact ih
theorem sum_need {b : Nat} : ∀ {D : List Int}, D.Nodup → (∀ g ∈ D, 0 ≤ g) → (D.map fun g => needB us b g).sum = ((us.filter fun u => decide (u.1 ∈ D) && !inB b u.2.1).length : Nat)
  | [], _, _ => by
    rw [List.filter_eq_nil_iff.mpr fun u _ => by simp]
    rfl
  | g :: D, nd, h => by
    obtain ⟨n1, n2⟩ := List.nodup_cons.mp nd
    rw [List.map_cons, List.sum_cons, sum_need n2 fun x hx => h x (by simp [hx]), need_len (h g (by simp)), ← Int.natCast_add, split_len n1]
theorem sum_filt {f : Int → Int} : ∀ {l : List Int}, (∀ x ∈ l, 0 ≤ f x) → ((l.filter fun g => decide (0 < f g)).map f).sum = (l.map f).sum
  | [], _ => rfl
  | x :: l, h => by
    have ih := sum_filt (f := f) (l := l) fun y hy => h y (by simp [hy])
    have hx := h x (by simp)
    rw [List.filter_cons]
    by_cases z : 0 < f x
    · simp [z, ih]
    · have : f x = 0 := by omega
      simp [z, ih, this]
theorem hei_hgt {row : List Int} (hu : ∀ u ∈ us, 0 ≤ u.2.1) (h : RowOk n row) : heiF us (stR us row) = hgtF us row := by
  show ((row.filter fun g => decide (0 < needB us (bitsR row) g)).map fun g => needB us (bitsR row) g).sum = _
  rw [sum_filt (f := fun g => needB us (bitsR row) g) (fun x _ => Int.natCast_nonneg _), sum_need h.nd h.nn]
  unfold hgtF
  congr 2
  apply List.filter_congr
  intro u hu'
  rw [inB_row (hu u hu') row h.nn]
def htsF (us : List T3) : List Int → List Int → List Int
  | _, [] => []
  | pre, s :: r => hgtF us (pre ++ [s]) :: htsF us (pre ++ [s]) r
theorem hts_range : ∀ (r pre : List Int), htsF us pre r = (List.range r.length).map fun i => hgtF us (pre ++ r.take (i + 1))
  | [], _ => rfl
  | s :: r, pre => by
    rw [htsF, hts_range r, List.length_cons, List.range_succ_eq_map, List.map_cons, List.map_map]
    congr 1
    apply List.map_congr_left
    intro i _
    simp
theorem top_hts (hu : ∀ u ∈ us, 0 ≤ u.2.1) : ∀ (r pre : List Int), RowOk n (pre ++ r) → topF us (stR us pre) r = (htsF us pre r).foldr max 0
  | [], _, _ => rfl
  | s :: r, pre, h => by
    have e : pre ++ s :: r = (pre ++ [s]) ++ r := by simp
    rw [e] at h
    have hp : RowOk n (pre ++ [s]) := ⟨(List.nodup_append.mp h.nd).1, fun o ho => h.sub o (List.mem_append_left _ ho)⟩
    show max (topF us (behF us (stR us pre) s) r) (heiF us (behF us (stR us pre) s)) = max (hgtF us (pre ++ [s])) ((htsF us (pre ++ [s]) r).foldr max 0)
    rw [stR_snoc hu (hp.nn s (by simp)), top_hts hu r _ h, hei_hgt hu hp, Int.max_comm]
theorem foldr_max : ∀ (l : List Int), ((l.foldr max 0 = 0) ∨ l.foldr max 0 ∈ l) ∧ ∀ x ∈ l, x ≤ l.foldr max 0
  | [] => ⟨.inl rfl, fun x hx => by cases hx⟩
  | a :: l => by
    obtain ⟨h1, h2⟩ := foldr_max l
    rw [List.foldr_cons]
    refine ⟨?_, fun x hx => ?_⟩
    · rcases Int.le_total a (l.foldr max 0) with z | z
      · rw [show max a (l.foldr max 0) = l.foldr max 0 by omega]
        exact h1.imp id fun q => List.mem_cons_of_mem _ q
      · right; rw [show max a (l.foldr max 0) = a by omega]; simp
    · rcases List.mem_cons.mp hx with rfl | hx
      · omega
      · have := h2 x hx; omega
theorem ex_foldr {l : List Int} (h : l ≠ []) (nn : ∀ x ∈ l, 0 ≤ x) : exF false l = l.foldr max 0 := by
  obtain ⟨a1, a2⟩ := ex_spec (l := false) h
  obtain ⟨b1, b2⟩ := foldr_max l
  have c1 := b2 _ a1
  rcases b1 with b1 | b1
  · have := nn _ a1; omega
  · have := a2 _ b1
    unfold RL at this
    simp at this
    omega
theorem hts_nn : ∀ (r pre : List Int), ∀ x ∈ htsF us pre r, 0 ≤ x
  | [], _, x, h => by cases h
  | s :: r, pre, x, h => by
    rcases List.mem_cons.mp h with rfl | h
    · exact Int.natCast_nonneg _
    · exact hts_nn r _ x h
theorem top_ex (hu : ∀ u ∈ us, 0 ≤ u.2.1) {r : List Int} (h : RowOk n r) (hne : r ≠ []) : exF false (htsF us [] r) = topF us st0 r := by
  rw [ex_foldr (by cases r with | nil => exact absurd rfl hne | cons s r => rw [htsF]; simp) (hts_nn r [])]
  exact (top_hts hu r [] (by simpa using h)).symm
end

end Law

set_option Elab.async false
set_option linter.all false
set_option maxRecDepth 100000
set_option maxHeartbeats 2000000
namespace Law
open PySem PySem.Spec PyProof.Rows L2 Md
/-! ### right orders are the orders listed -/
section
variable {n : Nat} {w : Web} {us : List T3}
theorem right_snoc {s : Int} : ∀ {r pre : List Int}, RightF w pre r → MayCome w (pre ++ r) s → RightF w pre (r ++ [s])
  | [], pre, _, h => ⟨by simpa using h, trivial⟩
  | x :: r, pre, ⟨h1, h2⟩, h => ⟨h1, right_snoc h2 (by simpa using h)⟩
theorem right_init {s : Int} : ∀ {r pre : List Int}, RightF w pre (r ++ [s]) → RightF w pre r ∧ MayCome w (pre ++ r) s
  | [], pre, h => ⟨trivial, by simpa using h.1⟩
  | x :: r, pre, ⟨h1, h2⟩ => by
    obtain ⟨a, b⟩ := right_init h2
    exact ⟨⟨h1, a⟩, by simpa using b⟩
theorem ord_iff (hup : us.Perm (tiesT w)) : ∀ (k : Nat) (row : List Int), row ∈ ordF w us k ↔ RowOk w.length row ∧ row.length = k ∧ RightF w [] row
  | 0, row => by
    constructor
    · intro h
      rw [show row = [] by simpa [ordF] using h]
      exact ⟨⟨List.nodup_nil, fun o ho => by cases ho⟩, rfl, trivial⟩
    · rintro ⟨_, h, _⟩
      rw [List.length_eq_zero_iff.mp h]
      exact List.mem_singleton.mpr rfl
  | k + 1, row => by
    show row ∈ levF w us (ordF w us k) ↔ _
    unfold levF
    rw [List.mem_flatMap]
    constructor
    · rintro ⟨r0, h0, h⟩
      obtain ⟨s, hs, rfl⟩ := List.mem_map.mp h
      obtain ⟨h1, h2⟩ := List.mem_filter.mp hs
      obtain ⟨h3, h4⟩ := List.mem_filter.mp h1
      obtain ⟨a, b, c⟩ := (ord_iff hup k r0).mp h0
      exact ⟨a.snoc h3 (by simpa using h4), by simp [b], right_snoc c ((may_iff hup a.nd a.nn).mp (by simpa using h2))⟩
    · rintro ⟨h1, h2, h3⟩
      rcases List.eq_nil_or_concat row with rfl | ⟨r0, s, rfl⟩
      · cases h2
      · rw [List.concat_eq_append] at *
        obtain ⟨a, b⟩ := right_init h3
        have nd := List.nodup_append.mp h1.nd
        have ro : RowOk w.length r0 := ⟨nd.1, fun o ho => h1.sub o (List.mem_append_left _ ho)⟩
        refine ⟨r0, (ord_iff hup k r0).mpr ⟨ro, by simpa using h2, a⟩, List.mem_map.mpr ⟨s, List.mem_filter.mpr ⟨List.mem_filter.mpr ⟨h1.sub s (by simp), ?_⟩, ?_⟩, rfl⟩⟩
        · have : s ∉ r0 := fun z => nd.2.2 s z s (by simp) rfl
          simpa using this
        · rw [may_iff hup ro.nd ro.nn]
          simpa using b
/-- the first order is a right order -/
theorem comp_right (hw : WebOk n w) (hup : us.Perm (tiesT w)) {row : List Int} : row ∈ compS w.length us false st0 ↔ RowOk w.length row ∧ row.length = w.length ∧ RightF w [] row := by
  rw [← ord_comp hw hup]
  exact ord_iff hup _ row
theorem first_right (hw : WebOk n w) (hup : us.Perm (tiesT w)) {row0 : List Int} (h0 : RowOk w.length row0) (hl : row0.length = w.length) (hr : RightF w [] row0) : ∃ row, (compS w.length us false st0).head? = some row ∧ RowOk w.length row ∧ row.length = w.length ∧ RightF w [] row := by
  have m := (comp_right hw hup).mpr ⟨h0, hl, hr⟩
  cases hc : compS w.length us false st0 with
  | nil => rw [hc] at m; cases m
  | cons a l => exact ⟨a, rfl, (comp_right hw hup).mp (by rw [hc]; simp)⟩
theorem perm_of_sub : ∀ {r l : List Int}, r.Nodup → (∀ x ∈ r, x ∈ l) → l.length ≤ r.length → r.Perm l
  | [], l, _, _, h => by rw [List.length_eq_zero_iff.mp (Nat.le_zero.mp h)]
  | s :: r, l, nd, hs, h => by
    obtain ⟨n1, n2⟩ := List.nodup_cons.mp nd
    have sl := hs s (by simp)
    have := perm_of_sub (l := l.erase s) n2 (fun x hx => (List.mem_erase_of_ne (fun (z : x = s) => n1 (z ▸ hx))).mpr (hs x (by simp [hx]))) (by
      have := List.length_erase_of_mem sl
      simp at h; omega)
    exact (this.cons s).trans (List.perm_cons_erase sl).symm
theorem RowOk.perm {n : Nat} {row : List Int} (h : RowOk n row) (hl : row.length = n) : row.Perm (rangeI n) := perm_of_sub h.nd h.sub (by rw [rangeI_len]; omega)
theorem RowOk.of {n : Nat} {row : List Int} (h : row.Perm (rangeI n)) : RowOk n row ∧ row.length = n := ⟨⟨h.nodup_iff.mpr rangeI_nd, fun o ho => h.subset ho⟩, by rw [h.length_eq, rangeI_len]⟩
end

end Law

set_option Elab.async false
set_option linter.all false
set_option maxRecDepth 100000
set_option maxHeartbeats 2000000
namespace Law
open PySem PySem.Spec PyProof.Rows L2 Md
/-! ### places: a dict made by enumerate -/
def pkvF (r : List (Int × Nat)) : List (D × D) := r.map fun q => (D.int q.1, D.int (q.2 : Nat))
def pkv (ns : List Int) : List (D × D) := pkvF ns.zipIdx
theorem putD_new {kvs : List (D × D)} {k v : D} (h : ∀ p ∈ kvs, p.1 ≠ k) : putD kvs k v = kvs ++ [(k, v)] := by
  unfold putD
  have : (kvs.any fun kv => decide (kv.1 = k)) = false := by
    rw [List.any_eq_false]
    intro p hp
    simpa using h p hp
  rw [this]
  simp
theorem dc_run {i j : Nat} {S : Sto} {lw : Md.Loc} {ok : Sto → Bool} (hok : ∀ S, ok S = true) (hlw : ∀ a b : D, ((lw.set i (some a)).set j (some b))[i]? = some (some a) ∧ ((lw.set i (some a)).set j (some b))[j]? = some (some b)) : ∀ (r : List (Int × Nat)) (acc : List (D × D)),
    (r.map (·.1)).Nodup → (∀ q ∈ r, ∀ p ∈ acc, p.1 ≠ D.int q.1) → acc.length + r.length ≤ 1000 →
    dcGo S.length ok (mgTup 2 (mgCons (mgName i) (mgCons (mgName j) mgNil))) mYes (mVar j) (mVar i) lw (r.map fun q => D.wtu [.int (q.2 : Nat), .int q.1]) (S ++ [.dct acc]) = .ok () (S ++ [.dct (acc ++ pkvF r)])
  | [], acc, _, _, _ => by
    rw [List.map_nil, dcGo, hok]
    show Out.ok () (S ++ [.dct acc]) = _
    simp [pkvF]
  | q :: r, acc, nd, hn, hz => by
    rw [List.map_cons, List.nodup_cons] at nd
    have e1 : (S ++ [Cell.dct acc])[S.length]? = some (.dct acc) := at_end
    have pn := putD_new (kvs := acc) (k := D.int q.1) (v := .int (q.2 : Nat)) (hn q (by simp))
    have ih := dc_run (S := S) hok hlw r (acc ++ [(D.int q.1, D.int (q.2 : Nat))]) nd.2 (fun x hx p hp => by
      rcases List.mem_append.mp hp with z | z
      · exact hn x (by simp [hx]) p z
      · simp at z
        subst z
        intro e
        injection e with e
        exact nd.1 (List.mem_map.mpr ⟨x, hx, e.symm⟩)) (by simp at hz ⊢; omega)
    obtain ⟨h1, h2⟩ := hlw (.int (q.2 : Nat)) (.int q.1)
    have sm : small acc.length = true := small_of (by simp at hz; omega)
    rw [List.map_cons, dcGo, hok]
    simp only [guardO_true, r_mgTup, r_mgTupW, List.length_cons, List.length_nil, if_true, r_mgCons, r_mgName, r_mgNil, Option.bind_some, need_some, r_yes, noex_ok, Out.bind_ok, r_var, h1, h2, dctL, e1, keyD, Option.isSome_some, sm, Bool.and_self, set_end, pn]
    rw [ih]
    unfold pkvF
    simp
theorem enum_row {ns : List Int} : enumD (ns.map D.int) = ns.zipIdx.map fun q => D.wtu [.int (q.2 : Nat), .int q.1] := enum_ints
theorem zip_fst (ns : List Int) : ns.zipIdx.map (·.1) = ns := by simp
def pos (ns : List Int) (s : Int) : Int := ((ns.idxOf s : Nat) : Int)
theorem lk_pkvF {s : Int} : ∀ (ns : List Int) (o : Nat), s ∈ ns → lkD (pkvF (ns.zipIdx o)) (.int s) = some (.int ((ns.idxOf s + o : Nat) : Int))
  | [], _, h => by cases h
  | x :: ns, o, h => by
    rw [List.zipIdx_cons]
    unfold pkvF lkD
    rw [List.map_cons, List.find?_cons]
    by_cases c : x = s
    · subst c
      simp
    · have : decide ((D.int x) = .int s) = false := by
        rw [decide_eq_false_iff_not]
        intro z
        injection z with z
        exact c z
      rw [this]
      have ih := lk_pkvF ns (o + 1) (by
        rcases List.mem_cons.mp h with rfl | q
        · exact absurd rfl c
        · exact q)
      unfold pkvF lkD at ih
      have e : (x :: ns).idxOf s = ns.idxOf s + 1 := by
        rw [List.idxOf_cons]
        have : (x == s) = false := by simpa using c
        rw [this]
        rfl
      rw [e]
      simp only [ih]
      congr 2
      omega
theorem at_place {ns : List Int} {S : Sto} {l : Nat} {s : Int} (e : S[l]? = some (.dct (pkv ns))) (h : s ∈ ns) : ixD S (.ref l) (.int s) = some (.int (pos ns s)) := by
  rw [q_ixR, e]
  show lkD (pkvF (ns.zipIdx 0)) (.int s) = _
  rw [lk_pkvF ns 0 h]
  rfl

end Law

set_option Elab.async false
set_option linter.all false
set_option maxRecDepth 100000
set_option maxHeartbeats 2000000
namespace Law
open PySem PySem.Spec PyProof.Rows L2 Md
/-! ### the heights that are told -/
theorem mem_take_iff {x : Int} : ∀ {l : List Int} {i : Nat}, x ∈ l → (x ∈ l.take i ↔ l.idxOf x < i)
  | a :: l, 0, _ => by simp
  | a :: l, i + 1, h => by
    rw [List.take_succ_cons, List.mem_cons]
    by_cases c : a = x
    · subst c; simp
    · have e : (a :: l).idxOf x = l.idxOf x + 1 := by
        rw [List.idxOf_cons]
        have : (a == x) = false := by simpa using c
        rw [this]; rfl
      have hx : x ∈ l := (List.mem_cons.mp h).resolve_left fun z => c z.symm
      rw [e, mem_take_iff hx (i := i)]
      have : ¬ x = a := fun z => c z.symm
      simp [this]
  | [], _, h => by cases h
/-- each giver comes ahead of its takers -/
theorem right_ahead {w : Web} : ∀ {r pre : List Int}, RightF w pre r → (pre ++ r).Nodup → ∀ s ∈ r, ∀ g ∈ inp w s, g ∈ pre ++ r ∧ (pre ++ r).idxOf g < (pre ++ r).idxOf s
  | [], _, _, _, s, hs, _, _ => by cases hs
  | x :: r, pre, ⟨h1, h2⟩, nd, s, hs, g, hg => by
    rcases List.mem_cons.mp hs with rfl | hs
    · have gp := h1.there g hg
      have sn : s ∉ pre := fun z => (List.nodup_append.mp nd).2.2 s z s (by simp) rfl
      refine ⟨List.mem_append_left _ gp, ?_⟩
      rw [idx_app sn]
      have := (mem_take_iff (i := pre.length) (List.mem_append_left (s :: r) gp)).mp (by rw [List.take_left]; exact gp)
      exact this
    · have e : pre ++ x :: r = (pre ++ [x]) ++ r := by simp
      rw [e] at nd ⊢
      exact right_ahead h2 nd s hs g hg
def cntI (us : List T3) (p : T3 → Bool) : Int := ((us.filter p).length : Nat)
theorem hgt_step {us : List T3} {row : List Int} {i : Nat} (h : ∀ u ∈ us, u.1 ∈ row ∧ u.2.1 ∈ row ∧ row.idxOf u.1 < row.idxOf u.2.1) :
    hgtF us (row.take (i + 1)) = hgtF us (row.take i) + cntI us (fun u => decide (pos row u.1 = (i : Int))) - cntI us (fun u => decide (pos row u.2.1 = (i : Int))) := by
  induction us with
  | nil => rfl
  | cons u us ih =>
    have ih := ih fun x hx => h x (by simp [hx])
    obtain ⟨a, b, c⟩ := h u (by simp)
    have m1 : ∀ j, decide (u.1 ∈ row.take j) = decide (row.idxOf u.1 < j) := fun j => decide_eq_decide.mpr (mem_take_iff a)
    have m2 : ∀ j, decide (u.2.1 ∈ row.take j) = decide (row.idxOf u.2.1 < j) := fun j => decide_eq_decide.mpr (mem_take_iff b)
    have p1 : decide (pos row u.1 = (i : Int)) = decide (row.idxOf u.1 = i) := decide_eq_decide.mpr (by unfold pos; omega)
    have p2 : decide (pos row u.2.1 = (i : Int)) = decide (row.idxOf u.2.1 = i) := decide_eq_decide.mpr (by unfold pos; omega)
    have hc : ∀ (q : T3 → Bool), (((u :: us).filter q).length : Int) = (if q u then 1 else 0) + ((us.filter q).length : Int) := fun q => by
      rw [List.filter_cons]
      cases q u <;> simp; omega
    unfold hgtF cntI at *
    rw [hc, hc, hc, hc]
    rw [m1, m2, m1, m2, p1, p2]
    generalize row.idxOf u.1 = A at *
    generalize row.idxOf u.2.1 = B at *
    have : (if (decide (A < i + 1) && !decide (B < i + 1)) = true then (1 : Int) else 0) = (if (decide (A < i) && !decide (B < i)) = true then 1 else 0) + (if decide (A = i) = true then 1 else 0) - (if decide (B = i) = true then 1 else 0) := by
      by_cases a1 : A < i + 1 <;> by_cases a2 : B < i + 1 <;> by_cases a3 : A < i <;> by_cases a4 : B < i <;> by_cases a5 : A = i <;> by_cases a6 : B = i <;> simp [a1, a2, a3, a4, a5, a6] <;> omega
    omega
noncomputable abbrev htBody : SD := (sCons (sSet 3 (mOp fAdd (mVar 3) (mCall fLen (mCons (mLcF finL (mSeq (mFn m_ties (mCons (mVar 0) (mNil)))) (mgName 7) (mB (mOp fEq (mOp fIx (mVar 4) (mOp fIx (mVar 7) (mC (.int 0)))) (mVar 5))) (mC (.int 1)) [7]) (mNil)))))
    (sCons (sSet 3 (mOp fSub (mVar 3) (mCall fLen (mCons (mLcF finL (mSeq (mFn m_ties (mCons (mVar 0) (mNil)))) (mgName 7) (mB (mOp fEq (mOp fIx (mVar 4) (mOp fIx (mVar 7) (mC (.int 1)))) (mVar 5))) (mC (.int 1)) [7]) (mNil)))))
    (sCons (sExpr (mMet "list" fAppend (mVar 2) (mCons (mVar 3) (mNil))))
    (sNil))))
theorem heights_run {n : Nat} {w : Web} {us : List T3} {S : Sto} {row : List Int} (hn : n ≤ 10) (hw : WebOk n w) (hu : duesD w = us.map encT) (hup : us.Perm (tiesT w)) (nd : row.Nodup) (hl : row.length ≤ 100) (hin : ∀ u ∈ us, u.1 ∈ row ∧ u.2.1 ∈ row ∧ row.idxOf u.1 < row.idxOf u.2.1) :
    m_heights [encW w, encR row] S = .ok (.tup ((htsF us [] row).map D.int)) S := by
  have hlw := hw.1
  have zus : us.length ≤ 1000 := by
    rw [hup.length_eq]
    have := tiesT_len hw w.length (Nat.le_refl _)
    rw [List.take_length] at this
    omega
  have tr : ∀ S, m_ties [encW w] S = .ok (.tup (us.map encT)) S := fun S => by rw [← hu]; exact ties_run (by omega) hw
  unfold m_heights
  rw [hts_range]
  simp only [List.nil_append]
  obtain ⟨kv, hkv⟩ : ∃ kv, kv = pkv row := ⟨_, rfl⟩
  let B : Option D → Option D → Md.Loc := fun t3 t5 => [some (encW w), some (encR row), some (.ref S.length), t3, some (.ref (S.length + 1)), t5, none, none]
  let T : List D → Sto := fun acc => S ++ [.lst acc, .dct kv]
  have atL : ∀ acc, (T acc)[S.length]? = some (.lst acc) := fun acc => by simp [T]
  have atD : ∀ acc, (T acc)[S.length + 1]? = some (.dct kv) := fun acc => by
    show (S ++ [_, _])[_]? = _
    rw [List.getElem?_append_right (by omega), show S.length + 1 - S.length = 1 by omega]; rfl
  have seL : ∀ acc z, (T acc).set S.length (.lst z) = T z := fun acc z => by
    show (S ++ [_, _]).set _ _ = _
    rw [List.set_append_right _ _ (by omega), Nat.sub_self]; rfl
  have c1 : sPar 2 3 (mCons (mLstO (mNil)) (mCons (mC (.int 0)) mNil)) (startL 8 [encW w, encR row]) S = .nx [some (encW w), some (encR row), some (.ref S.length), some (.int 0), none, none, none, none] (S ++ [.lst []]) := rfl
  have c2 : sSet 4 (mDc (mEnumA (mCons (mVar 1) (mNil))) (mgTup 2 (mgCons (mgName 5) (mgCons (mgName 6) (mgNil)))) (mYes) (mVar 6) (mVar 5) [5, 6]) [some (encW w), some (encR row), some (.ref S.length), some (.int 0), none, none, none, none] (S ++ [.lst []]) = .nx (B (some (.int 0)) none) (T []) := by
    have e := dc_run (i := 5) (j := 6) (S := S ++ [.lst []]) (lw := [some (encW w), some (encR row), some (.ref S.length), some (.int 0), none, none, none, none]) (ok := cellOk ⟨[], enumD (row.map D.int)⟩) (fun _ => rfl) (fun _ _ => ⟨rfl, rfl⟩) row.zipIdx [] (by rw [zip_fst]; exact nd) (by simp) (by simp; omega)
    rw [← enum_row, List.nil_append] at e
    have eL : (S ++ [Cell.lst ([] : List D)]).length = S.length + 1 := by simp
    rw [eL] at e
    have e2 : S ++ [Cell.lst []] ++ [Cell.dct (pkvF row.zipIdx)] = T [] := by
      show _ = S ++ [Cell.lst [], .dct kv]
      rw [hkv, List.append_assoc]; rfl
    rw [e2] at e
    simp only [List.append_assoc, List.cons_append, List.nil_append] at e
    dsimp only [encR] at e
    dsimp only [B, encR]
    generalize row.map D.int = Z at *
    generalize encW w = W at *
    generalize hT : T [] = T0 at *
    simp [mDc, mEnumA, wipeL, e]
  have loop := for_to (ok := cellOk ⟨[], rgD 0 row.length⟩) (mg := mgName 5) (ms := htBody) (rgD 0 row.length)
    (fun i l S' => (∃ t5, l = B (some (.int (hgtF us (row.take i)))) t5) ∧ S' = T (((List.range i).map fun i => hgtF us (row.take (i + 1))).map D.int)) (loc := B (some (.int 0)) none) (S := T []) ⟨⟨none, by
      have : hgtF us (row.take 0) = 0 := by unfold hgtF; simp
      rw [this]⟩, rfl⟩ (fun _ _ _ _ _ => rfl) fun i d l S' hd p => by
      obtain ⟨⟨t5, rfl⟩, rfl⟩ := p
      obtain ⟨hi, rfl⟩ := r3_at hd
      refine ⟨B (some (.int (hgtF us (row.take i)))) (some (.int (i : Int))), rfl, B (some (.int (hgtF us (row.take (i + 1))))) (some (.int (i : Int))), _, ?_, ⟨_, rfl⟩, rfl⟩
      obtain ⟨acc, hacc⟩ : ∃ acc, acc = ((List.range i).map fun i => hgtF us (row.take (i + 1))).map D.int := ⟨_, rfl⟩
      have al : acc.length ≤ 1000000 := by rw [hacc]; simp; omega
      rw [List.range_succ, List.map_append, List.map_append, ← hacc]
      have lc : ∀ (j : Int) (f : T3 → Int) (loc : Md.Loc), (∀ S t, ixD S (encT t) (.int j) = some (.int (f t))) → (∀ u ∈ us, f u ∈ row) → (∃ t3, loc = B t3 (some (.int (i : Int)))) → ∃ ones : List D, lcGo (cellOk ⟨[], us.map encT⟩) (mgName 7) (mB (mOp fEq (mOp fIx (mVar 4) (mOp fIx (mVar 7) (mC (.int j)))) (mVar 5))) (mC (.int 1)) loc (us.map encT) [] (T acc) = .ok ones (T acc) ∧ (ones.length : Int) = cntI us (fun u => decide (pos row (f u) = (i : Int))) := fun j f loc hj hf hloc => by
        obtain ⟨t3, rfl⟩ := hloc
        obtain ⟨p, hp⟩ : ∃ p : D → Bool, ∀ t, p (encT t) = decide (pos row (f t) = (i : Int)) := ⟨fun d => match ixD [] d (.int j) with | some (.int x) => decide (pos row x = (i : Int)) | _ => false, fun t => by show (match ixD [] (encT t) (.int j) with | some (.int x) => decide (pos row x = (i : Int)) | _ => false) = _; rw [hj]⟩
        have := lc_pure (ok := cellOk ⟨[], us.map encT⟩) (mg := mgName 7) (mt := mB (mOp fEq (mOp fIx (mVar 4) (mOp fIx (mVar 7) (mC (.int j)))) (mVar 5))) (me := mC (.int 1)) (lw := B t3 (some (.int (i : Int)))) (S := T acc) rfl p (fun _ => .int 1) (us.map encT) [] (by simp; omega) fun d hd => by
          obtain ⟨t, ht, rfl⟩ := List.mem_map.mp hd
          refine ⟨[some (encW w), some (encR row), some (.ref S.length), t3, some (.ref (S.length + 1)), some (.int (i : Int)), none, some (encT t)], rfl, ?_, fun _ => rfl⟩
          rw [hp]
          have i1 := hj (T acc) t
          have i2 := at_place (S := T acc) (l := S.length + 1) (ns := row) (by rw [← hkv]; exact atD acc) (hf t ht)
          have i3 : eqD (T acc) (.int (pos row (f t))) (.int (i : Int)) = some (decide (pos row (f t) = (i : Int))) := eqD_int
          dsimp only [encR] at *
          generalize T acc = TT at *
          generalize row.map D.int = R0 at *
          generalize encW w = W at *
          generalize encT t = ET at *
          simp [-eqD_int, i1, i2, i3, -q_ixR]
        refine ⟨_, this, ?_⟩
        rw [List.nil_append, List.length_map, List.filter_map, List.length_map]
        unfold cntI
        congr 2
        apply List.filter_congr
        intro t _
        exact hp t
      have tr1 := tr (T acc)
      obtain ⟨o1, l1, n1⟩ := lc 0 (·.1) (B (some (.int (hgtF us (row.take i)))) (some (.int (i : Int)))) (fun _ _ => rfl) (fun u hu => (hin u hu).1) ⟨_, rfl⟩
      obtain ⟨o2, l2, n2⟩ := lc 1 (·.2.1) (B (some (.int (hgtF us (row.take i) + cntI us (fun u => decide (pos row u.1 = (i : Int)))))) (some (.int (i : Int)))) (fun _ _ => rfl) (fun u hu => (hin u hu).2.1) ⟨_, rfl⟩
      have st := hgt_step (i := i) hin
      have at1 := atL acc
      have se := seL acc
      clear lc hacc tr
      rw [← n1, ← n2] at st
      rw [← n1] at l2
      have s1 : sSet 3 (mOp fAdd (mVar 3) (mCall fLen (mCons (mLcF finL (mSeq (mFn m_ties (mCons (mVar 0) (mNil)))) (mgName 7) (mB (mOp fEq (mOp fIx (mVar 4) (mOp fIx (mVar 7) (mC (.int 0)))) (mVar 5))) (mC (.int 1)) [7]) (mNil)))) (B (some (.int (hgtF us (row.take i)))) (some (.int (i : Int)))) (T acc) = .nx (B (some (.int (hgtF us (row.take i) + (o1.length : Int)))) (some (.int (i : Int)))) (T acc) := by
        dsimp only [B] at *
        generalize mB (mOp fEq (mOp fIx (mVar 4) (mOp fIx (mVar 7) (mC (.int 0)))) (mVar 5)) = MT at *
        generalize hTT : T acc = TT at *
        generalize encR row = R0 at *
        generalize encW w = W at *
        generalize us.map encT = UT at *
        simp [tr1, wipeL, l1]
      have s2 : sSet 3 (mOp fSub (mVar 3) (mCall fLen (mCons (mLcF finL (mSeq (mFn m_ties (mCons (mVar 0) (mNil)))) (mgName 7) (mB (mOp fEq (mOp fIx (mVar 4) (mOp fIx (mVar 7) (mC (.int 1)))) (mVar 5))) (mC (.int 1)) [7]) (mNil)))) (B (some (.int (hgtF us (row.take i) + (o1.length : Int)))) (some (.int (i : Int)))) (T acc) = .nx (B (some (.int (hgtF us (row.take (i + 1))))) (some (.int (i : Int)))) (T acc) := by
        rw [st]
        dsimp only [B] at *
        generalize mB (mOp fEq (mOp fIx (mVar 4) (mOp fIx (mVar 7) (mC (.int 1)))) (mVar 5)) = MT at *
        generalize hTT : T acc = TT at *
        generalize encR row = R0 at *
        generalize encW w = W at *
        generalize us.map encT = UT at *
        simp [tr1, wipeL, l2]
      have s3 : sCons (sExpr (mMet "list" fAppend (mVar 2) (mCons (mVar 3) (mNil)))) sNil (B (some (.int (hgtF us (row.take (i + 1))))) (some (.int (i : Int)))) (T acc) = .nx (B (some (.int (hgtF us (row.take (i + 1))))) (some (.int (i : Int)))) (T (acc ++ [D.int (hgtF us (row.take (i + 1)))])) := by
        rw [← se (acc ++ [D.int (hgtF us (row.take (i + 1)))])]
        generalize hgtF us (row.take (i + 1)) = HG at *
        clear se
        dsimp only [B] at *
        generalize hTT : T acc = TT at *
        generalize encR row = R0 at *
        generalize encW w = W at *
        simp [tyIs, at1, fAppend, cellL, al]
      exact (sCons_nx s1).trans ((sCons_nx s2).trans s3)
  have hl' : (rgD 0 row.length).length = row.length := by simp [rgD]
  rw [hl'] at loop
  obtain ⟨l2, S2, e2, ⟨t5, rfl⟩, rfl⟩ := loop
  have c3 : sFor (mRng1 (mCons (mCall fLen (mCons (mVar 1) (mNil))) (mNil))) (mgName 5) htBody (B (some (.int 0)) none) (T []) = .nx (B (some (.int (hgtF us (row.take row.length)))) t5) (T (((List.range row.length).map fun i => hgtF us (row.take (i + 1))).map D.int)) := by
    refine (sFor_nx (src := ⟨[], rgD 0 row.length⟩) ?_).trans e2
    have hb : bnd62 (row.length : Int) = true := bnd_small (by omega) (by omega)
    have lr : ∀ S, lenD S (encR row) = some row.length := fun _ => by show some (row.map D.int).length = _; rw [List.length_map]
    dsimp only [B]
    generalize T [] = T0 at *
    generalize encR row = R0 at *
    generalize encW w = W at *
    simp [lr, hb]
  obtain ⟨X, hX⟩ : ∃ X, T (((List.range row.length).map fun i => hgtF us (row.take (i + 1))).map D.int) = S ++ X := ⟨_, rfl⟩
  refine def_pure rfl ⟨.tup (((List.range row.length).map fun i => hgtF us (row.take (i + 1))).map D.int), T (((List.range row.length).map fun i => hgtF us (row.take (i + 1))).map D.int), (sCons_nx c1).trans ((sCons_nx c2).trans ((sCons_nx c3).trans (sCons_rt ?_))), by rw [hX]; simp, thaw_ok (okD_refs (by rw [okD]; exact okL_ints))⟩
  have at1 := atL (((List.range row.length).map fun i => hgtF us (row.take (i + 1))).map D.int)
  dsimp only [B]
  generalize ((List.range row.length).map fun i => hgtF us (row.take (i + 1))).map D.int = HH at *
  generalize T HH = TT at *
  generalize encR row = R0 at *
  generalize encW w = W at *
  simp [at1]
theorem us_right {n : Nat} {w : Web} {us : List T3} {row : List Int} (hw : WebOk n w) (hup : us.Perm (tiesT w)) (hp : row.Perm (rangeI w.length)) (hr : RightF w [] row) : ∀ u ∈ us, u.1 ∈ row ∧ u.2.1 ∈ row ∧ row.idxOf u.1 < row.idxOf u.2.1 := fun u hu => by
  obtain ⟨a1, a2, a3, a4⟩ := gv_range hup hw hu
  have tr : u.2.1 ∈ row := hp.mem_iff.mpr (rangeI_mem.mpr ⟨a3, a4⟩)
  have tk : u.2.1 ∈ tkI us u.1.toNat := List.mem_map.mpr ⟨u, List.mem_filter.mpr ⟨hu, decide_eq_true (by omega)⟩, rfl⟩
  have hi := ((tk_mem hup).mp tk).2
  rw [show ((u.1.toNat : Nat) : Int) = u.1 by omega] at hi
  have := right_ahead hr (by simpa using hp.nodup_iff.mpr rangeI_nd) u.2.1 tr u.1 hi
  simp only [List.nil_append] at this
  exact ⟨this.1, tr, this.2⟩
theorem hgt_le {us : List T3} {row : List Int} : 0 ≤ hgtF us row ∧ hgtF us row ≤ (us.length : Int) := by
  unfold hgtF
  have := (List.filter_sublist (l := us) (p := fun u => decide (u.1 ∈ row) && !decide (u.2.1 ∈ row))).length_le
  omega
theorem rp_ints {ns : List Int} (h : ∀ x ∈ ns, x.natAbs ≤ 1000) (hl : ns.length ≤ 100) : ∃ x, ∀ S, reprD S (.tup (ns.map D.int)) = some x := by
  refine ⟨_, fun S => reprD_is (by rw [okD]; exact okL_ints) (by rw [ltD]; exact ltL_map fun x hx => lt_small' (h x hx)) (by rw [dep, depL_ints]; decide) ?_⟩
  have := blkL_map (n := 0) (f := D.int) (xs := ns) fun _ _ => Nat.le_refl _
  rw [blk]
  omega
theorem hts_repr {us : List T3} {row : List Int} (hu : us.length ≤ 1000) (hl : row.length ≤ 100) : ∃ x, ∀ S, reprD S (.tup ((htsF us [] row).map D.int)) = some x := by
  refine rp_ints (fun x hx => ?_) (by rw [hts_range]; simpa using hl)
  rw [hts_range] at hx
  obtain ⟨i, _, rfl⟩ := List.mem_map.mp hx
  have := hgt_le (us := us) (row := [] ++ row.take (i + 1))
  omega
/-- nothing is under way behind the last step -/
theorem hts_last {n : Nat} {w : Web} {us : List T3} {row : List Int} (hw : WebOk n w) (hup : us.Perm (tiesT w)) (hp : row.Perm (rangeI w.length)) (h0 : 0 < row.length) : atI ((htsF us [] row).map D.int) (-1) = some (.int 0) := by
  have e : htsF us [] row = (htsF us [] row).dropLast ++ [0] := by
    rw [hts_range]
    obtain ⟨k, hk⟩ : ∃ k, row.length = k + 1 := ⟨row.length - 1, by omega⟩
    rw [hk, List.range_succ, List.map_append, List.map_cons, List.map_nil, List.dropLast_concat]
    congr 2
    rw [← hk, List.take_length, List.nil_append]
    unfold hgtF
    rw [List.filter_eq_nil_iff.mpr fun u hu => ?_]
    · rfl
    · obtain ⟨a1, a2, a3, a4⟩ := gv_range hup hw hu
      have : u.2.1 ∈ row := hp.mem_iff.mpr (rangeI_mem.mpr ⟨a3, a4⟩)
      simp [this]
  rw [e, List.map_append, List.map_cons, List.map_nil]
  generalize (htsF us [] row).dropLast.map D.int = A
  unfold atI ixN
  rw [if_neg (by decide), if_pos (by simp; omega), Option.bind_some]
  rw [show ((-1 : Int) + ((A ++ [D.int 0]).length : Nat)).toNat = A.length by simp; omega]
  simp

end Law

set_option Elab.async false
set_option linter.all false
set_option maxRecDepth 100000
set_option maxHeartbeats 2000000
namespace Law
open PySem PySem.Spec PyProof.Rows L2 Md
section
variable {n : Nat} {w : Web} {us : List T3}
/-! ### the law's heights are run -/
noncomputable abbrev lhBody : SD := (sCons (sSet 4 (mSl (mVar 1) (mPart none) (mPart (some (mOp fAdd (mVar 3) (mC (.int 1)))))))
    (sCons (sExpr (mMet "list" fAppend (mVar 2) (mCons (mCall fLen (mCons (mLcF finL (mSeq (mFn m__law_ties (mCons (mVar 0) (mNil)))) (mgTup 3 (mgCons (mgName 5) (mgCons (mgName 6) (mgCons (mgName 7) (mgNil))))) (mAnd (mB (mOp fIn (mVar 5) (mVar 4))) (mB (mOp fNotIn (mVar 6) (mVar 4)))) (mC (.int 1)) [5, 6, 7]) (mNil))) (mNil))))
    (sNil)))
theorem lheights_run {S : Sto} {row : List Int} (hn : n ≤ 10) (hw : WebOk n w) (hu : duesD w = us.map encT) (hup : us.Perm (tiesT w)) (hl : row.length ≤ 1000) : m__law_heights [encW w, encR row] S = .ok (.tup ((htsF us [] row).map D.int)) S := by
  have hlw := hw.1
  have zus : us.length ≤ 1000 := by
    rw [hup.length_eq]
    have := tiesT_len hw w.length (Nat.le_refl _)
    rw [List.take_length] at this
    omega
  have tr : ∀ S, m__law_ties [encW w] S = .ok (.lst (us.map encT)) S := fun S => by rw [← hu]; exact lties_run (by omega) hw
  unfold m__law_heights
  let B : Option D → Option D → Md.Loc := fun t3 t4 => [some (encW w), some (encR row), some (.ref S.length), t3, t4, none, none, none]
  rw [hts_range]
  simp only [List.nil_append]
  have c1 : sSet 2 (mLstO (mNil)) (startL 8 [encW w, encR row]) S = .nx (B none none) (S ++ [.lst []]) := rfl
  have loop := for_to (ok := cellOk ⟨[], rgD 0 row.length⟩) (mg := mgName 3) (ms := lhBody) (rgD 0 row.length)
    (fun i l S' => (∃ t3 t4, l = B t3 t4) ∧ S' = S ++ [.lst (((List.range i).map fun i => hgtF us (row.take (i + 1))).map D.int)]) (loc := B none none) (S := S ++ [.lst []]) ⟨⟨_, _, rfl⟩, rfl⟩ (fun _ _ _ _ _ => rfl) fun i d l S' hd p => by
      obtain ⟨⟨t3, t4, rfl⟩, rfl⟩ := p
      obtain ⟨hi, rfl⟩ := r3_at hd
      refine ⟨B (some (.int (i : Int))) t4, rfl, B (some (.int (i : Int))) (some (encR (row.take (i + 1)))), _, ?_, ⟨_, _, rfl⟩, rfl⟩
      have sl : ∀ S, slD S (encR row) none (some ((i : Int) + 1)) = some (encR (row.take (i + 1))) := fun S => by
        show some (D.tup (Md.cutD _ _ _)) = _
        rw [show ((i : Int) + 1) = ((i + 1 : Nat) : Int) from by simp, cut_to, ← List.map_take]
      obtain ⟨acc, hacc⟩ : ∃ acc, acc = ((List.range i).map fun i => hgtF us (row.take (i + 1))).map D.int := ⟨_, rfl⟩
      have al : acc.length ≤ 1000000 := by rw [hacc]; simp; omega
      rw [List.range_succ, List.map_append, List.map_append, ← hacc]
      have lc : ∀ S', ∃ ones : List D, lcGo (cellOk ⟨[], us.map encT⟩) (mgTup 3 (mgCons (mgName 5) (mgCons (mgName 6) (mgCons (mgName 7) (mgNil))))) (mAnd (mB (mOp fIn (mVar 5) (mVar 4))) (mB (mOp fNotIn (mVar 6) (mVar 4)))) (mC (.int 1)) (B (some (.int (i : Int))) (some (encR (row.take (i + 1))))) (us.map encT) [] S' = .ok ones S' ∧ (ones.length : Int) = hgtF us (row.take (i + 1)) := fun S' => by
        obtain ⟨p, hp⟩ : ∃ p : D → Bool, ∀ t, p (encT t) = (decide (t.1 ∈ row.take (i + 1)) && !decide (t.2.1 ∈ row.take (i + 1))) := ⟨fun d => match d with | .tup [.int a, .int b, _] => decide (a ∈ row.take (i + 1)) && !decide (b ∈ row.take (i + 1)) | _ => false, fun _ => rfl⟩
        have := lc_pure (ok := cellOk ⟨[], us.map encT⟩) (mg := mgTup 3 (mgCons (mgName 5) (mgCons (mgName 6) (mgCons (mgName 7) (mgNil))))) (mt := mAnd (mB (mOp fIn (mVar 5) (mVar 4))) (mB (mOp fNotIn (mVar 6) (mVar 4)))) (me := mC (.int 1)) (lw := B (some (.int (i : Int))) (some (encR (row.take (i + 1))))) (S := S') rfl p (fun _ => .int 1) (us.map encT) [] (by simp; omega) fun d hd => by
          obtain ⟨t, ht, rfl⟩ := List.mem_map.mp hd
          refine ⟨[some (encW w), some (encR row), some (.ref S.length), some (.int (i : Int)), some (encR (row.take (i + 1))), some (.int t.1), some (.int t.2.1), some (.int t.2.2)], rfl, ?_, fun _ => rfl⟩
          rw [hp]
          have i1 := in_tup (S := S') (i := t.1) (ns := row.take (i + 1))
          have i2 := in_tup (S := S') (i := t.2.1) (ns := row.take (i + 1))
          dsimp only [encR] at *
          generalize (row.take (i + 1)).map D.int = R1 at *
          generalize row.map D.int = R0 at *
          generalize encW w = W at *
          cases a : decide (t.1 ∈ row.take (i + 1)) with
          | true => rw [a] at i1; simp [i1, i2]
          | false => rw [a] at i1; simp [i1]
        refine ⟨_, this, ?_⟩
        rw [List.nil_append, List.length_map, List.filter_map, List.length_map]
        unfold hgtF
        congr 2
        apply List.filter_congr
        intro t _
        exact hp t
      obtain ⟨ones, l1, ol⟩ := lc (S ++ [.lst acc])
      have at1 : (S ++ [Cell.lst acc])[S.length]? = some (.lst acc) := at_end
      have se : ∀ z, (S ++ [Cell.lst acc]).set S.length z = S ++ [z] := fun z => set_end
      have tr1 := tr (S ++ [.lst acc])
      show _ = OutS.nx _ (S ++ [.lst (acc ++ [.int (hgtF us (row.take (i + 1)))])])
      rw [← ol]
      clear lc hacc
      dsimp only [B] at *
      generalize encR (row.take (i + 1)) = R1 at *
      generalize encR row = R0 at *
      generalize encW w = W at *
      generalize us.map encT = UT at *
      simp [sl, tr1, wipeL, l1, tyIs, at1, fAppend, cellL, se, al]
  have hl' : (rgD 0 row.length).length = row.length := by simp [rgD]
  rw [hl'] at loop
  obtain ⟨l2, S2, e2, ⟨t3, t4, rfl⟩, rfl⟩ := loop
  have c2 : sFor (mRng1 (mCons (mCall fLen (mCons (mVar 1) (mNil))) (mNil))) (mgName 3) lhBody (B none none) (S ++ [.lst []]) = .nx (B t3 t4) (S ++ [.lst (((List.range row.length).map fun i => hgtF us (row.take (i + 1))).map D.int)]) := by
    refine (sFor_nx (src := ⟨[], rgD 0 row.length⟩) ?_).trans e2
    have hb : bnd62 (row.length : Int) = true := bnd_small (by omega) (by omega)
    have lr : ∀ S, lenD S (encR row) = some row.length := fun _ => by show some (row.map D.int).length = _; rw [List.length_map]
    dsimp only [B]
    generalize encR row = R0 at *
    generalize encW w = W at *
    simp [lr, hb]
  refine def_pure rfl ⟨.tup (((List.range row.length).map fun i => hgtF us (row.take (i + 1))).map D.int), S ++ [.lst (((List.range row.length).map fun i => hgtF us (row.take (i + 1))).map D.int)], (sCons_nx c1).trans ((sCons_nx c2).trans (sCons_rt ?_)), by simp, thaw_ok (okD_refs (by rw [okD]; exact okL_ints))⟩
  have at1 : (S ++ [Cell.lst (((List.range row.length).map fun i => hgtF us (row.take (i + 1))).map D.int)])[S.length]? = some (.lst (((List.range row.length).map fun i => hgtF us (row.take (i + 1))).map D.int)) := at_end
  dsimp only [B]
  generalize ((List.range row.length).map fun i => hgtF us (row.take (i + 1))).map D.int = HH at *
  generalize encR row = R0 at *
  generalize encW w = W at *
  simp [at1]
end

end Law

set_option Elab.async false
set_option linter.all false
set_option maxRecDepth 100000
set_option maxHeartbeats 2000000
namespace Law
open PySem PySem.Spec PyProof.Rows L2 Md
/-! ### the places of a row -/
theorem back_perm {row : List Int} {n : Nat} (hr : row.Perm (rangeI n)) : ((List.range n).map fun (k : Nat) => (((row.findIdx? fun z => decide (z = (k : Int))).getD 0 : Nat) : Int)).Perm (rangeI n) := by
  have lr : row.length = n := by rw [hr.length_eq, rangeI_len]
  have fnd : ∀ k : Nat, k < n → ∃ i, (row.findIdx? fun z => decide (z = (k : Int))) = some i ∧ i < n ∧ row[i]? = some (k : Int) := fun k hk => by
    obtain ⟨i, h1, h2⟩ := find_there (row := row) (one := (k : Int)) (hr.mem_iff.mpr (rangeI_mem.mpr (by omega)))
    refine ⟨i, h1, by omega, ?_⟩
    obtain ⟨hi, h3, _⟩ := List.findIdx?_eq_some_iff_getElem.mp h1
    rw [List.getElem?_eq_getElem hi]
    exact congrArg some (of_decide_eq_true h3)
  refine (perm_sub ?_ (fun x hx => ?_) (by rw [rangeI_len]; simp)).symm
  · rw [List.nodup_iff_pairwise_ne, List.pairwise_map]
    refine List.Pairwise.imp_of_mem (R := (· < ·)) (fun {a b} ha hb hlt => ?_) List.pairwise_lt_range
    obtain ⟨i, h1, _, h2⟩ := fnd a (List.mem_range.mp ha)
    obtain ⟨j, h3, _, h4⟩ := fnd b (List.mem_range.mp hb)
    rw [h1, h3]
    simp only [Option.getD_some]
    intro e
    have : i = j := by omega
    subst this
    rw [h2] at h4
    cases h4
    omega
  · obtain ⟨k, hk, rfl⟩ := List.mem_map.mp hx
    obtain ⟨i, h1, h2, _⟩ := fnd k (List.mem_range.mp hk)
    rw [h1]
    exact rangeI_mem.mpr ⟨by simp, by simp; omega⟩

end Law

set_option Elab.async false
set_option linter.all false
set_option maxRecDepth 100000
set_option maxHeartbeats 2000000
namespace Law
open PySem PySem.Spec PyProof.Rows L2 Md
/-! ### what is woven on a pile goes in a right order -/
inductive RunS (w : Web) : Nat → List Int → Prop where
  | nil : RunS w 0 []
  | step {k : Nat} {W T : List Int} {m : Nat} (h : RunS w k (W ++ T)) (p : T.Perm (inp w (k : Int))) : RunS w (k + 1) (W ++ List.replicate m (k : Int))
theorem inp_app {w x : Web} {k : Nat} (h : k < w.length) : inp (w ++ x) (k : Int) = inp w (k : Int) := by
  unfold inp
  rw [Int.toNat_natCast, List.getD_eq_getElem?_getD, List.getD_eq_getElem?_getD, List.getElem?_append_left h]
theorem RunS.app {w : Web} (x : Web) : ∀ {k : Nat} {W : List Int}, RunS w k W → k ≤ w.length → RunS (w ++ x) k W := fun h => by
  induction h with
  | nil => intro _; exact .nil
  | @step k W T m h p ih =>
    intro hk
    exact .step (ih (by omega)) (by rw [inp_app (by omega)]; exact p)
theorem runS_F {w : Web} {k : Nat} {W : List Int} (h : RunS w k W) : ∀ r, RunF w r W → RunF w (rangeI k ++ r) [] := by
  induction h with
  | nil => intro r hr; exact hr
  | @step k W T m h p ih =>
    intro r hr
    have := ih ((k : Int) :: r) ⟨W, T, m, rfl, p, hr⟩
    have e : rangeI (k + 1) ++ r = rangeI k ++ (k : Int) :: r := by
      unfold rangeI
      rw [List.range_succ]
      simp
    rw [e]; exact this
theorem run_map {w w' : Web} {f : Int → Int} : ∀ {r W : List Int}, (∀ s ∈ r, inp w' (f s) = (inp w s).map f) → RunF w r W → RunF w' (r.map f) (W.map f)
  | [], _, _, _ => trivial
  | s :: r, W, h, ⟨W', T, m, h1, h2, h3⟩ => by
    refine ⟨W'.map f, T.map f, m, by rw [h1, List.map_append], ?_, ?_⟩
    · rw [h s (by simp)]
      exact h2.map f
    · have := run_map (fun t ht => h t (by simp [ht])) h3
      rw [List.map_append, List.map_replicate] at this
      exact this
theorem woven_right {w : Web} {row : List Int} {ps : List Int} (hr : row.Perm ((List.range w.length).map fun (i : Nat) => (i : Int))) (h : RunS w w.length ps) :
    RightF (numW w row) [] ((List.range w.length).map fun (k : Nat) => (((row.findIdx? fun z => decide (z = (k : Int))).getD 0 : Nat) : Int)) := by
  have h1 := runS_F h [] trivial
  rw [List.append_nil] at h1
  have lr : row.length = w.length := by rw [hr.length_eq]; simp
  have lN : (numW w row).length = w.length := by unfold numW; rw [List.length_map]; exact lr
  have h2 := run_map (w' := numW w row) (f := fun one => (((row.findIdx? fun z => decide (z = one)).getD 0 : Nat) : Int)) (fun s hs => by
    have ms : s ∈ row := hr.mem_iff.mpr hs
    obtain ⟨j, ej, hj⟩ := find_there ms
    have ej2 := List.findIdx?_eq_some_iff_getElem.mp ej
    have es : row[j] = s := by simpa using ej2.2.1
    rw [ej]
    show inp (numW w row) ((j : Nat) : Int) = _
    have : (numW w row).getD j (.non, []) = ((w.getD s.toNat (.non, [])).1, (w.getD s.toNat (.non, [])).2.map fun one => (((row.findIdx? fun z => decide (z = one)).getD 0 : Nat) : Int)) := by
      unfold numW
      rw [List.getD_eq_getElem?_getD, List.getElem?_map, List.getElem?_eq_getElem hj, es]
      rfl
    unfold inp
    rw [Int.toNat_natCast, this]) h1
  have bp := back_perm hr
  have e : (rangeI w.length).map (fun one => (((row.findIdx? fun z => decide (z = one)).getD 0 : Nat) : Int)) = (List.range w.length).map fun (k : Nat) => (((row.findIdx? fun z => decide (z = (k : Int))).getD 0 : Nat) : Int) := by
    unfold rangeI
    rw [List.map_map]; rfl
  rw [e] at h2
  refine run_right (q := fun _ => 0) (row := []) h2 (by simpa using bp.nodup_iff.mpr rangeI_nd) fun t ht => ?_
  rw [lN] at ht
  simpa using bp.mem_iff.mpr ht
def WovInvR (b : Nat) (r : List Cell) (most : Int) (q : Bool) (k : Nat) (l : Md.Loc) (S : Sto) : Prop := ∃ (t5 t6 t7 : Option D) (c0 c1 : Cell) (w : Web) (ps : List Int), l = WL most q r ps t5 t6 t7 ∧ S = c0 :: c1 :: (r ++ [.lst (w.map encS)]) ∧ DkC (b + 7 * k) c0 c1 ∧ w.length = k ∧
  (∀ (j : Nat) (p : D × List Int), w[j]? = some p → StepOk 0 j p) ∧ (∀ p ∈ ps, 0 ≤ p ∧ p < (k : Int)) ∧ ps.length ≤ 3 * k ∧ (q = false → RunS w k ps)
theorem wovR_body {b : Nat} {r : List Cell} {most : Int} {q : Bool} {k : Nat} {l : Md.Loc} {S : Sto} (hb : b ≤ 100000) (hk : k ≤ 100) (h : WovInvR b r most q k l S) : (wovBody (l.set 5 (some (.int (0 + (k : Int))))) S).To (WovInvR b r most q (k + 1)) := by
  obtain ⟨t5, t6, t7, c0, c1, w, ps, rfl, rfl, hC, hw, hok, hps, hpl, hrun⟩ := h
  obtain ⟨d, S1, e1, hS1, hd⟩ := one_to (b := b + 7 * k) (r := r ++ [.lst (w.map encS)]) (S := c0 :: c1 :: (r ++ [.lst (w.map encS)])) (xs := [D.int 0, .int 0, .int 1, .int 2, .int 2, .int 3]) ⟨c0, c1, rfl, hC⟩ (by omega) (by simp) (by simp) (fun x hx n => by simp at hx; rcases hx with rfl | rfl | rfl | rfl <;> rfl)
  obtain ⟨d0, d1, rfl, hD1⟩ := hS1
  obtain ⟨m0, rfl, a1⟩ : ∃ m : Nat, d = .int m ∧ m ≤ 3 := by
    simp at hd
    rcases hd with rfl | rfl | rfl | rfl
    · exact ⟨0, rfl, by decide⟩
    · exact ⟨1, rfl, by decide⟩
    · exact ⟨2, rfl, by decide⟩
    · exact ⟨3, rfl, by decide⟩
  obtain ⟨m, em, b1, b2⟩ : ∃ m : Nat, min (m0 : Int) (ps.length : Nat) = m ∧ m ≤ ps.length ∧ m ≤ 3 := ⟨min m0 ps.length, by omega, by omega, by omega⟩
  -- what is taken, what is left
  obtain ⟨tk, rs, etk, ers, ltk, lrs, itk, irs, hcut⟩ : ∃ tk rs : List Int, (∀ S, (mIf (mTru (mVar 2)) (mSl (mVar 3) (mPart none) (mPart (some (mVar 6)))) (mSl (mVar 3) (mPart (some (mOp fSub (mCall fLen (mCons (mVar 3) (mNil))) (mVar 6)))) (mPart none))) (WL most q r ps (some (.int (k : Int))) (some (.int (m : Int))) t7) S = .ok (.lst (tk.map D.int)) S) ∧
      (∀ S t7, (mIf (mTru (mVar 2)) (mSl (mVar 3) (mPart (some (mVar 6))) (mPart none)) (mSl (mVar 3) (mPart none) (mPart (some (mOp fSub (mCall fLen (mCons (mVar 3) (mNil))) (mVar 6)))))) (WL most q r ps (some (.int (k : Int))) (some (.int (m : Int))) t7) S = .ok (.lst (rs.map D.int)) S) ∧ tk.length = m ∧ rs.length ≤ ps.length ∧ (∀ p ∈ tk, p ∈ ps) ∧ (∀ p ∈ rs, p ∈ ps) ∧ (q = false → ps = rs ++ tk) := by
    have hz : (ps.map D.int).length = ps.length := by simp
    have ct : Md.cutD (ps.map D.int) (some ((ps.length : Int) - m)) none = (ps.map D.int).drop (ps.length - m) := by
      have := cut_tail (ds := ps.map D.int) (m := m) (by simp; exact b1)
      rw [hz] at this
      rw [this]
    have ch : Md.cutD (ps.map D.int) none (some ((ps.length : Int) - m)) = (ps.map D.int).take (ps.length - m) := by
      have := cut_head (ds := ps.map D.int) (m := m) (by simp; exact b1)
      rw [hz] at this
      rw [this]
    cases q with
    | true =>
      refine ⟨ps.take m, ps.drop m, fun S => ?_, fun S t7 => ?_, by simp; omega, by simp, fun p => List.mem_of_mem_take, fun p => List.mem_of_mem_drop, fun h => by cases h⟩
      · simp [WL, truD, cut_to]
      · simp [WL, truD, cut_from]
    | false =>
      refine ⟨ps.drop (ps.length - m), ps.take (ps.length - m), fun S => ?_, fun S t7 => ?_, by simp; omega, by simp, fun p => List.mem_of_mem_drop, fun p => List.mem_of_mem_take, fun _ => (List.take_append_drop _ _).symm⟩
      · simp [WL, truD, ct]
      · simp [WL, truD, ch]
  obtain ⟨kd, S2, e2, hS2, hkd⟩ := kind_to (b := b + 7 * k + 1) (r := r ++ [.lst (w.map encS)]) (S := d0 :: d1 :: (r ++ [.lst (w.map encS)])) (m := m) ⟨d0, d1, rfl, hD1⟩ (by omega) b2
  obtain ⟨d, S3, e3, hS3, ys, rfl, hys⟩ := mixed_to (xs := tk.map D.int) hS2 (by omega) (by simp; omega) (fun x hx => by obtain ⟨y, _, rfl⟩ := List.mem_map.mp hx; rfl)
  obtain ⟨ns, rfl, hns⟩ := perm_ints hys
  obtain ⟨c0', c1', rfl, hC'⟩ := hS3
  have hC' : DkC (b + 7 * k + 6) c0' c1' := hC'.mono (by simp; omega)
  obtain ⟨d, S4, e4, hS4, g, rfl, g0, g1⟩ := draw_to (b := b + 7 * k + 6) (r := r ++ [.lst (w.map encS ++ [encS (kd, ns)])]) (S := c0' :: c1' :: (r ++ [.lst (w.map encS ++ [encS (kd, ns)])])) (m := 4) ⟨c0', c1', rfl, hC'⟩ (by omega) (by decide) (by decide)
  obtain ⟨G, rfl⟩ : ∃ G : Nat, g = (G : Int) := ⟨g.toNat, by omega⟩
  obtain ⟨c2, c3, rfl, hC2⟩ := hS4
  have lw : w.length ≤ 1000000 := by omega
  have zn : ns.length ≤ 3 := by rw [hns.length_eq, ltk]; exact b2
  refine ⟨WL most q r (rs ++ List.replicate G (k : Int)) (some (.int (k : Int))) (some (.int (m : Int))) (some (.lst (tk.map D.int))), _, ?_, some (.int (k : Int)), some (.int (m : Int)), some (.lst (tk.map D.int)), c2, c3, w ++ [(kd, ns)], rs ++ List.replicate G (k : Int), rfl, by rw [List.map_append, List.map_singleton], hC2.mono (by omega), by simp [hw], fun j p hp => ?_, fun p hp => ?_, ?_, fun hq => ?_⟩
  · have enc1 : encS (kd, ns) = .tup [kd, .tup (ns.map D.int)] := rfl
    have s1 : sSet 6 (mCall fMin (mCons (mFn m__law_one (mCons (mVar 0) (mCons (mLst (mCons (mC (.int 0)) (mCons (mC (.int 0)) (mCons (mC (.int 1)) (mCons (mC (.int 2)) (mCons (mC (.int 2)) (mCons (mC (.int 3)) (mNil)))))))) (mNil)))) (mCons (mCall fLen (mCons (mVar 3) (mNil))) (mNil)))) ((WL most q r ps t5 t6 t7).set 5 (some (.int (0 + (k : Int))))) (c0 :: c1 :: (r ++ [.lst (w.map encS)])) =
        .nx (WL most q r ps (some (.int (k : Int))) (some (.int (m : Int))) t7) (d0 :: d1 :: (r ++ [.lst (w.map encS)])) := by
      simp [WL, e1, em]
    have s2 : ∀ S, sSet 7 (mIf (mTru (mVar 2)) (mSl (mVar 3) (mPart none) (mPart (some (mVar 6)))) (mSl (mVar 3) (mPart (some (mOp fSub (mCall fLen (mCons (mVar 3) (mNil))) (mVar 6)))) (mPart none))) (WL most q r ps (some (.int (k : Int))) (some (.int (m : Int))) t7) S = .nx (WL most q r ps (some (.int (k : Int))) (some (.int (m : Int))) (some (.lst (tk.map D.int)))) S := fun S => by
      show ((mIf _ _ _) (WL most q r ps (some (.int (k : Int))) (some (.int (m : Int))) t7) S).thn _ _ = _
      rw [etk]
      rfl
    have s3 : ∀ S, sSet 3 (mIf (mTru (mVar 2)) (mSl (mVar 3) (mPart (some (mVar 6))) (mPart none)) (mSl (mVar 3) (mPart none) (mPart (some (mOp fSub (mCall fLen (mCons (mVar 3) (mNil))) (mVar 6)))))) (WL most q r ps (some (.int (k : Int))) (some (.int (m : Int))) (some (.lst (tk.map D.int)))) S = .nx (WL most q r rs (some (.int (k : Int))) (some (.int (m : Int))) (some (.lst (tk.map D.int)))) S := fun S => by
      show ((mIf _ _ _) (WL most q r ps (some (.int (k : Int))) (some (.int (m : Int))) (some (.lst (tk.map D.int)))) S).thn _ _ = _
      rw [ers]
      rfl
    have s4 : sExpr (mMet "list" fAppend (mVar 4) (mCons (mTup (mCons (mFn m__law_kind (mCons (mVar 0) (mCons (mVar 6) (mNil)))) (mCons (mCall fTuple (mCons (mFn m__law_mixed (mCons (mVar 0) (mCons (mVar 7) (mNil)))) (mNil))) (mNil)))) (mNil))) (WL most q r rs (some (.int (k : Int))) (some (.int (m : Int))) (some (.lst (tk.map D.int)))) (d0 :: d1 :: (r ++ [.lst (w.map encS)])) =
        .nx (WL most q r rs (some (.int (k : Int))) (some (.int (m : Int))) (some (.lst (tk.map D.int)))) (c0' :: c1' :: (r ++ [.lst (w.map encS ++ [encS (kd, ns)])])) := by
      simp [WL, tyIs, at_b2, e2, e3, set_b2, cellL, fAppend, lw, enc1]
    have z3 : rs.length + G ≤ 1000000 := by omega
    have z4 : (-1000 : Int) ≤ G ∧ (G : Int) ≤ 1000 := by omega
    have s5 : sCons (sSet 3 (mOp fAdd (mVar 3) (mOp fMul (mLst (mCons (mVar 5) (mNil))) (mFn m__law_draw (mCons (mVar 0) (mCons (mC (.int 4)) (mNil))))))) sNil (WL most q r rs (some (.int (k : Int))) (some (.int (m : Int))) (some (.lst (tk.map D.int)))) (c0' :: c1' :: (r ++ [.lst (w.map encS ++ [encS (kd, ns)])])) =
        .nx (WL most q r (rs ++ List.replicate G (k : Int)) (some (.int (k : Int))) (some (.int (m : Int))) (some (.lst (tk.map D.int)))) (c2 :: c3 :: (r ++ [.lst (w.map encS ++ [encS (kd, ns)])])) := by
      simp [WL, e4, rep_one, z3, z4]
    exact (sCons_nx s1).trans ((sCons_nx (s2 _)).trans ((sCons_nx (s3 _)).trans ((sCons_nx s4).trans s5)))
  · by_cases hj : j < w.length
    · rw [List.getElem?_append_left hj] at hp
      exact hok j p hp
    · have hj2 := (List.getElem?_eq_some_iff.mp hp).1
      have ej : j = w.length := by simp at hj2; omega
      subst ej
      simp at hp
      subst hp
      refine ⟨by show kd ∈ kindsOf ns.length; rw [hns.length_eq, ltk]; exact hkd, zn, fun i hi => ?_⟩
      have := hps i (itk i (hns.subset hi))
      omega
  · rcases List.mem_append.mp hp with h | h
    · have := hps p (irs p h)
      omega
    · have := List.eq_of_mem_replicate h
      omega
  · simp
    omega
  · subst hw
    have h1 := (hrun hq)
    rw [hcut hq] at h1
    refine .step (h1.app [(kd, ns)] (Nat.le_refl _)) ?_
    have : inp (w ++ [(kd, ns)]) (w.length : Int) = ns := by unfold inp; simp
    rw [this]
    exact hns.symm
theorem wovenR_to {b : Nat} {r : List Cell} {S : Sto} {most : Nat} {q : Bool} (hS : Dk b r S) (hb : b ≤ 90000) (h0 : 0 < most) (h1 : most ≤ 10) :
    (m__law_woven [.ref 1, .int most, .bl q] S).To fun d S' => Dk (b + 100) r S' ∧ ∃ (w : Web) (row : List Int), d = .tup [encW w, .tup (((List.range w.length).map fun (k : Nat) => (((row.findIdx? fun z => decide (z = (k : Int))).getD 0 : Nat) : Int)).map D.int)] ∧ WebOk most w ∧ row.Perm ((List.range w.length).map fun (i : Nat) => (i : Int)) ∧ (q = false → RightF w [] ((List.range w.length).map fun (k : Nat) => (((row.findIdx? fun z => decide (z = (k : Int))).getD 0 : Nat) : Int))) := by
  unfold m__law_woven
  refine def_draws (b' := b + 100) (P := fun d => ∃ (w : Web) (row : List Int), d = .tup [encW w, .tup (((List.range w.length).map fun (k : Nat) => (((row.findIdx? fun z => decide (z = (k : Int))).getD 0 : Nat) : Int)).map D.int)] ∧ WebOk most w ∧ row.Perm ((List.range w.length).map fun (i : Nat) => (i : Int)) ∧ (q = false → RightF w [] ((List.range w.length).map fun (k : Nat) => (((row.findIdx? fun z => decide (z = (k : Int))).getD 0 : Nat) : Int)))) hS rfl ?_
  obtain ⟨c0, c1, rfl, hC⟩ := hS
  obtain ⟨d, S1, e1, ⟨a0, a1, rfl, hA⟩, m, rfl, m0, m1⟩ := draw_to (b := b) (r := r ++ [.lst []]) (S := c0 :: c1 :: (r ++ [.lst []])) (m := most) ⟨c0, c1, rfl, hC⟩ (by omega) (by omega) (by omega)
  have hbn : bnd62 (1 + m) = true := bnd_small (by omega) (by omega)
  obtain ⟨n, en⟩ : ∃ n : Nat, (1 + m).toNat = n ∧ n ≤ most := ⟨(1 + m).toNat, rfl, by omega⟩
  have hl : (rgD 0 n).length = n := by simp [rgD]
  have loop := for_to (ok := cellOk ⟨[], rgD 0 n⟩) (mg := mgName 5) (ms := wovBody) (rgD 0 n) (WovInvR (b + 1) r most q) (loc := WL most q r [] none none none) (S := a0 :: a1 :: (r ++ [.lst []]))
    ⟨none, none, none, a0, a1, [], [], rfl, rfl, hA, rfl, by simp, by simp, by simp, fun _ => .nil⟩ (fun _ _ _ _ _ => rfl) (fun k d l S hk p => by
      obtain ⟨hk1, rfl⟩ := rgD_get hk
      exact ⟨_, rfl, wovR_body (by omega) (by omega) p⟩)
  rw [hl] at loop
  obtain ⟨l', S', e, t5, t6, t7, c2, c3, w, ps, rfl, rfl, hC2, hw, hok, _, _, hrun⟩ := loop
  have ok : WebOk most w := webOk_of (by omega) (by omega) hok
  have st : sPar 3 4 (mCons (mLst (mNil)) (mCons (mLstO (mNil)) mNil)) (startL 9 [.ref 1, .int most, .bl q]) (c0 :: c1 :: r) = .nx (WL most q r [] none none none) (c0 :: c1 :: (r ++ [.lst []])) := by simp [startL, WL]
  have fr : ∀ ms, ms = wovBody → sFor (mRng1 (mCons (mOp fAdd (mC (.int 1)) (mFn m__law_draw (mCons (mVar 0) (mCons (mVar 1) (mNil))))) (mNil))) (mgName 5) ms (WL most q r [] none none none) (c0 :: c1 :: (r ++ [.lst []]))
      = .nx (WL most q r ps t5 t6 t7) (c2 :: c3 :: (r ++ [.lst (w.map encS)])) := fun ms hms => by
    rw [← hms] at e
    rw [← e]
    simp [WL, e1, hbn, en.1]
  obtain ⟨d, S5, e5, hS5, ys, rfl, hys⟩ := mixed_to (b := b + 1 + 7 * n) (r := r ++ [.lst (w.map encS)]) (S := c2 :: c3 :: (r ++ [.lst (w.map encS)])) (xs := rgD 0 w.length) ⟨c2, c3, rfl, hC2⟩ (by omega) (by simp [rgD]; omega) (fun x hx => by
    unfold rgD at hx
    obtain ⟨y, _, rfl⟩ := List.mem_map.mp hx
    rfl)
  rw [rgD_eq] at hys
  have ez : ((List.range w.length).map fun (i : Nat) => (0 : Int) + (i : Int)) = (List.range w.length).map fun (i : Nat) => (i : Int) := by
    congr 1
    funext i
    omega
  rw [ez] at hys
  obtain ⟨row, rfl, hrow⟩ := perm_ints hys
  obtain ⟨x0, x1, rfl, hX⟩ := hS5
  have hX : DkC (b + 100) x0 x1 := hX.mono (by simp [rgD]; omega)
  have lN : (numW w row).length = w.length := by unfold numW; rw [List.length_map, hrow.length_eq]; simp
  have er := renum_run (n := most) (l := r.length + 2) (w := w) (row := row) (S := x0 :: x1 :: (r ++ [.lst (w.map encS)])) (by omega) ok at_b2 hrow
  have hbw : bnd62 (w.length : Int) = true := bnd_small (by omega) (by omega)
  obtain ⟨os, hos⟩ : ∃ os, os = (List.range w.length).map fun (k : Nat) => (((row.findIdx? fun z => decide (z = (k : Int))).getD 0 : Nat) : Int) := ⟨_, rfl⟩
  have there : ∀ k : Nat, k < w.length → (k : Int) ∈ row := fun k hk => hrow.symm.subset (List.mem_map.mpr ⟨k, List.mem_range.mpr hk, rfl⟩)
  have l1 : ∀ S, lcGo (cellOk ⟨[], rgD 0 w.length⟩) (mgName 5) mYes (mMet "list" fIndex (mVar 8) (mCons (mVar 5) (mNil))) [some (.ref 1), some (.int most), some (.bl q), some (.lst (ps.map D.int)), some (.ref (r.length + 2)), none, t6, t7, some (.lst (row.map D.int))] (rgD 0 w.length) [] S = .ok (os.map D.int) S := fun S => by
    obtain ⟨pl, hp0⟩ : ∃ pl : D → D, ∀ i, pl (.int i) = .int (((row.findIdx? fun z => decide (z = i)).getD 0 : Nat) : Int) := ⟨fun d => match d with | .int i => .int (((row.findIdx? fun z => decide (z = i)).getD 0 : Nat) : Int) | d => d, fun _ => rfl⟩
    rw [lc_map rfl pl (rgD 0 w.length) (by simp [rgD]; omega) fun d hd => by
      unfold rgD at hd
      obtain ⟨k, hk, rfl⟩ := List.mem_map.mp hd
      obtain ⟨j, ej, hj⟩ := find_there (there k (List.mem_range.mp hk))
      refine ⟨_, rfl, ?_⟩
      simp [tyIs, fIndex, idxD_ints, ej, hp0]]
    rw [rgD_eq, ez, hos, List.map_map, List.map_map, List.map_map]
    congr 2
    funext k
    exact hp0 k
  have rg : ∀ S, fRg 0 0 (w.length : Int) S = .ok (.lst (rgD 0 w.length)) S := fun S => by
    rw [fRg0 (by omega) (by omega) (by omega) (by omega)]
    simp
  have s8 : sSet 8 (mFn m__law_mixed (mCons (mVar 0) (mCons (mRgL1 (mCall fLen (mCons (mVar 4) (mNil)))) (mNil)))) (WL most q r ps t5 t6 t7) (c2 :: c3 :: (r ++ [.lst (w.map encS)])) =
      .nx [some (.ref 1), some (.int most), some (.bl q), some (.lst (ps.map D.int)), some (.ref (r.length + 2)), t5, t6, t7, some (.lst (row.map D.int))] (x0 :: x1 :: (r ++ [.lst (w.map encS)])) := by
    simp [WL, at_b2, rg, e5]
  have s9 : sCons (sRet (mTup (mCons (mFn m__law_renumbered (mCons (mVar 4) (mCons (mVar 8) (mNil)))) (mCons (mCall fTuple (mCons (mLcF finL (mRng1 (mCons (mCall fLen (mCons (mVar 4) (mNil))) (mNil))) (mgName 5) (mYes) (mMet "list" fIndex (mVar 8) (mCons (mVar 5) (mNil))) [5]) (mNil))) (mNil))))) sNil
      [some (.ref 1), some (.int most), some (.bl q), some (.lst (ps.map D.int)), some (.ref (r.length + 2)), t5, t6, t7, some (.lst (row.map D.int))] (x0 :: x1 :: (r ++ [.lst (w.map encS)])) = .rt (.tup [encW (numW w row), .tup (os.map D.int)]) (x0 :: x1 :: (r ++ [.lst (w.map encS)])) := by
    simp [er, at_b2, hbw, wipeL, l1]
  refine ⟨_, _, (sCons_nx st).trans ((sCons_nx (fr _ rfl)).trans ((sCons_nx s8).trans s9)), x0, x1, [.lst (w.map encS)], _, rfl, hX, thaw_ok ?_, numW w row, row, by rw [lN, ← hos], numW_ok ok hrow, by rw [lN]; exact hrow, fun hq => ?_⟩
  · exact okD_refs (by rw [okD, okL, okL, okL, encW_ok (numW_ok ok hrow), okD, okL_ints]; rfl)
  · rw [lN]
    exact woven_right hrow (by rw [hw]; exact hrun hq)

end Law

set_option Elab.async false
set_option linter.all false
set_option maxRecDepth 100000
set_option maxHeartbeats 2000000
namespace Law
open PySem PySem.Spec PyProof.Rows L2 Md
/-! ### law k30 -/
abbrev QL (ns : List Int) (t2 t3 t4 t5 : Option D) : Md.Loc := [some (.scr ns), some (.ref 1), t2, t3, t4, t5]
noncomputable abbrev askIf : SD := (sIf (mB (mOp fNe (mCall fRepr (mCons (mFn m_heights (mCons (mVar 3) (mCons (mVar 5) (mNil)))) (mNil))) (mCall fRepr (mCons (mFn m__law_heights (mCons (mVar 3) (mCons (mVar 5) (mNil)))) (mNil)))))
    (sCons (sRet (mC (.bl false)))
    (sNil))
    (sNil))
noncomputable abbrev lastIf : SD := (sIf (mOr (mB (mOp fNe (mOp fIx (mFn m_heights (mCons (mVar 3) (mCons (mVar 4) (mNil)))) (mUn fNeg (mC (.int 1)))) (mC (.int 0)))) (mB (mOp fNe (mFn m_heights (mCons (mVar 3) (mCons (mVar 4) (mNil)))) (mFnK m_heights 0 2 [1, 0] mNil (mCons (mVar 4) (mCons (mVar 3) (mNil)))))))
    (sCons (sRet (mC (.bl false)))
    (sNil))
    (sNil))
noncomputable abbrev turnBody : SD := (sCons (sAsg (mgTup 2 (mgCons (mgName 3) (mgCons (mgName 4) (mgNil)))) (mFn m__law_woven (mCons (mVar 1) (mCons (mFn m__law_one (mCons (mVar 1) (mCons (mLst (mCons (mC (.int 8)) (mCons (mC (.int 10)) (mNil)))) (mNil)))) (mCons (mC (.bl false)) (mNil))))))
    (sCons (sFor (mSeq (mLst (mCons (mVar 4) (mCons (mFn m_order_of (mCons (mVar 3) (mNil))) (mNil))))) (mgName 5)
    (sCons askIf
    (sNil)))
    (sCons lastIf
    (sNil))))
noncomputable abbrev endE : ED := (mOp fEq (mCall fRepr (mCons (mFn m_heights (mCons (mTup (mCons (mTup (mCons (mC (.str "in")) (mCons (mTup (mNil)) (mNil)))) (mCons (mTup (mCons (mC (.str "pick")) (mCons (mTup (mCons (mC (.int 0)) (mCons (mC (.int 0)) (mCons (mC (.int 0)) (mNil))))) (mNil)))) (mCons (mTup (mCons (mC (.str "neg")) (mCons (mTup (mCons (mC (.int 0)) (mNil))) (mNil)))) (mNil))))) (mCons (mTup (mCons (mC (.int 0)) (mCons (mC (.int 1)) (mCons (mC (.int 2)) (mNil))))) (mNil)))) (mNil))) (mC (.str "(4, 1, 0)")))
theorem body_eq : b_law = sCons (sSet 1 (mFn m__law_deck (mCons (mVar 0) (mNil)))) (sCons (sFor (mRng1 (mCons (mC (.int 10)) (mNil))) (mgName 2) turnBody) (sCons (sRet endE) (sNil))) := rfl
section
variable {w : Web} {us : List T3} {row : List Int} {ns : List Int} {t2 t3 t4 t5 : Option D} {S : Sto}
theorem ask_run (hw : WebOk 10 w) (hu : duesD w = us.map encT) (hup : us.Perm (tiesT w)) (hp : row.Perm (rangeI w.length)) (hr : RightF w [] row) : askIf (QL ns t2 (some (encW w)) t4 (some (encR row))) S = .nx (QL ns t2 (some (encW w)) t4 (some (encR row))) S := by
  have hlw := hw.1
  have zus : us.length ≤ 100 := by
    rw [hup.length_eq]
    have := tiesT_len hw w.length (Nat.le_refl _)
    rw [List.take_length] at this
    omega
  have rl : row.length ≤ 100 := by rw [hp.length_eq, rangeI_len]; omega
  have r1 := heights_run (S := S) (n := 10) (by decide) hw hu hup (hp.nodup_iff.mpr rangeI_nd) rl (us_right hw hup hp hr)
  have r2 := lheights_run (S := S) (n := 10) (row := row) (by decide) hw hu hup (by omega)
  obtain ⟨x, hx⟩ := hts_repr (us := us) (row := row) (by omega) rl
  have f : ∀ d S, fRepr [d] S = need (reprD S d) fun x => .ok (.str x) S := fun _ _ => rfl
  dsimp only [QL]
  generalize (htsF us [] row).map D.int = H at *
  generalize encR row = R at *
  generalize encW w = W at *
  simp [r1, r2, f, hx]
theorem last_run (hw : WebOk 10 w) (hu : duesD w = us.map encT) (hup : us.Perm (tiesT w)) (hp : row.Perm (rangeI w.length)) (hr : RightF w [] row) (h0 : 0 < w.length) : lastIf (QL ns t2 (some (encW w)) (some (encR row)) t5) S = .nx (QL ns t2 (some (encW w)) (some (encR row)) t5) S := by
  have hlw := hw.1
  have rl : row.length = w.length := by rw [hp.length_eq, rangeI_len]
  have r1 := heights_run (S := S) (n := 10) (by decide) hw hu hup (hp.nodup_iff.mpr rangeI_nd) (by omega) (us_right hw hup hp hr)
  have i1 : ∀ S, ixD S (.tup ((htsF us [] row).map D.int)) (.int (-1)) = some (.int 0) := fun S => hts_last hw hup hp (by omega)
  have e1 : ∀ S, eqD S (.tup ((htsF us [] row).map D.int)) (.tup ((htsF us [] row).map D.int)) = some true := fun S => by
    rw [eqD_is (by rw [okD]; exact okL_ints) (by rw [okD]; exact okL_ints) (by rw [nbD]; exact nbL_map fun _ _ => rfl) (by rw [nbD]; exact nbL_map fun _ _ => rfl) (by rw [dep, depL_ints]; decide) (by rw [dep, depL_ints]; decide)]
    simp
  dsimp only [QL]
  generalize (htsF us [] row).map D.int = H at *
  generalize encR row = R at *
  generalize encW w = W at *
  simp [r1, i1, e1, mFnK, permL]
end
theorem turn_run' {ns : List Int} {b : Nat} {r : List Cell} {S : Sto} {t2 t3 t4 t5 : Option D} (hb : b ≤ 70000) (hS : Dk b r S) : (turnBody (QL ns t2 t3 t4 t5) S).To fun l S' => (∃ t3 t4 t5, l = QL ns t2 t3 t4 t5) ∧ ∃ r', Dk (b + 200) r' S' := by
  obtain ⟨d, S1, e1, hS1, hd⟩ := one_to (xs := [D.int 8, .int 10]) hS (by omega) (by simp) (by simp) (fun x hx n => by simp at hx; rcases hx with rfl | rfl <;> rfl)
  obtain ⟨most, rfl, m0, m1⟩ : ∃ m : Nat, d = .int m ∧ 0 < m ∧ m ≤ 10 := by
    simp at hd
    rcases hd with rfl | rfl
    · exact ⟨8, rfl, by decide, by decide⟩
    · exact ⟨10, rfl, by decide, by decide⟩
  obtain ⟨d, S2, e2, hS2, w, row0, rfl, hw, hrow, hright⟩ := wovenR_to (most := most) (q := false) hS1 (by omega) m0 m1
  have hw : WebOk 10 w := ⟨Nat.le_trans hw.1 m1, hw.2⟩
  have hp := back_perm hrow
  have hr := hright rfl
  obtain ⟨os, hos⟩ : ∃ os, os = (List.range w.length).map fun (k : Nat) => (((row0.findIdx? fun z => decide (z = (k : Int))).getD 0 : Nat) : Int) := ⟨_, rfl⟩
  rw [← hos] at e2 hp hr
  obtain ⟨us, hu, hup⟩ := dues_T w
  obtain ⟨ro, rl⟩ := RowOk.of hp
  obtain ⟨row, hhd, ro2, rl2, rr2⟩ := first_right hw hup ro rl hr
  obtain ⟨X, eo⟩ := orderof_run (S := S2) (n := 10) (by decide) hw hu hup
  rw [hhd] at eo
  have eo : m_order_of [encW w] S2 = .ok (encR row) (S2 ++ X) := eo
  have s1 : sAsg (mgTup 2 (mgCons (mgName 3) (mgCons (mgName 4) (mgNil)))) (mFn m__law_woven (mCons (mVar 1) (mCons (mFn m__law_one (mCons (mVar 1) (mCons (mLst (mCons (mC (.int 8)) (mCons (mC (.int 10)) (mNil)))) (mNil)))) (mCons (mC (.bl false)) (mNil))))) (QL ns t2 t3 t4 t5) S = .nx (QL ns t2 (some (encW w)) (some (encR os)) t5) S2 := by
    have e2 : m__law_woven [.ref 1, .int most, .bl false] S1 = .ok (.tup [encW w, encR os]) S2 := e2
    dsimp only [QL]
    generalize encR os = O at *
    generalize encW w = W at *
    simp [e1, e2]
  have fr := for_to (ok := cellOk ⟨[], [encR os, encR row]⟩) (mg := mgName 5) (ms := sCons askIf sNil) [encR os, encR row] (fun k l S' => (∃ t5, l = QL ns t2 (some (encW w)) (some (encR os)) t5) ∧ S' = S2 ++ X) (loc := QL ns t2 (some (encW w)) (some (encR os)) t5) (S := S2 ++ X) ⟨⟨_, rfl⟩, rfl⟩ (fun _ _ _ _ _ => rfl) (fun k d l S' hk p => by
    obtain ⟨⟨t5, rfl⟩, rfl⟩ := p
    have hd := List.mem_of_getElem? hk
    obtain ⟨rw0, rfl, hp0, hr0⟩ : ∃ rw0, d = encR rw0 ∧ rw0.Perm (rangeI w.length) ∧ RightF w [] rw0 := by
      simp only [List.mem_cons, List.not_mem_nil, or_false] at hd
      rcases hd with rfl | rfl
      · exact ⟨_, rfl, hp, hr⟩
      · exact ⟨_, rfl, ro2.perm rl2, rr2⟩
    refine ⟨QL ns t2 (some (encW w)) (some (encR os)) (some (encR rw0)), rfl, _, _, (sCons_nx (ask_run hw hu hup hp0 hr0)).trans rfl, ⟨_, rfl⟩, rfl⟩)
  obtain ⟨l3, S3, e3, ⟨t5', rfl⟩, rfl⟩ := fr
  have s2 : sFor (mSeq (mLst (mCons (mVar 4) (mCons (mFn m_order_of (mCons (mVar 3) (mNil))) (mNil))))) (mgName 5) (sCons askIf (sNil)) (QL ns t2 (some (encW w)) (some (encR os)) t5) S2 = .nx (QL ns t2 (some (encW w)) (some (encR os)) t5') (S2 ++ X) := by
    refine (sFor_nx (src := ⟨[], [encR os, encR row]⟩) ?_).trans e3
    dsimp only [QL]
    generalize encR os = O at *
    generalize encR row = R at *
    generalize encW w = W at *
    simp [eo, cellsOf]
  have s3 := last_run (ns := ns) (t2 := t2) (t5 := t5') (S := S2 ++ X) hw hu hup hp hr hw.pos
  obtain ⟨c0, c1, rfl, hC⟩ := hS2
  exact ⟨_, _, (sCons_nx s1).trans ((sCons_nx s2).trans ((sCons_nx s3).trans rfl)), ⟨_, _, _, rfl⟩, r ++ X, c0, c1, by simp, hC.mono (by omega)⟩
def wEnd : Web := [(.str "in", []), (.str "pick", [0, 0, 0]), (.str "neg", [0])]
theorem end_run {ns : List Int} {t2 t3 t4 t5 : Option D} {S : Sto} : endE (QL ns t2 t3 t4 t5) S = .ok (.bl true) S := by
  have hw : WebOk 10 wEnd := webOk_of (by decide) (by decide) fun j p h => by
    match j, h with
    | 0, h => cases h; exact ⟨by simp [kindsOf], by decide, by simp⟩
    | 1, h => cases h; exact ⟨by simp [kindsOf], by decide, by simp⟩
    | 2, h => cases h; exact ⟨by simp [kindsOf], by decide, by simp⟩
    | j + 3, h => cases h
  obtain ⟨us, hu, hup⟩ := dues_T wEnd
  have hp : ([0, 1, 2] : List Int).Perm (rangeI wEnd.length) := by decide
  have hr : RightF wEnd [] [0, 1, 2] := ⟨(may_iff (us := tiesT wEnd) (List.Perm.refl _) (by decide) (by decide)).mp (by decide), (may_iff (us := tiesT wEnd) (List.Perm.refl _) (by decide) (by decide)).mp (by decide), (may_iff (us := tiesT wEnd) (List.Perm.refl _) (by decide) (by decide)).mp (by decide), trivial⟩
  have r1 := heights_run (S := S) (n := 10) (row := [0, 1, 2]) (by decide) hw hu hup (by decide) (by decide) (us_right hw hup hp hr)
  have hh : htsF us [] [0, 1, 2] = [4, 1, 0] := by
    have : ∀ row, hgtF us row = hgtF (tiesT wEnd) row := fun row => by
      unfold hgtF
      rw [(hup.filter _).length_eq]
    simp only [htsF, this]
    decide
  rw [hh] at r1
  have r1 : m_heights [.tup [.tup [.str "in", .tup []], .tup [.str "pick", .tup [.int 0, .int 0, .int 0]], .tup [.str "neg", .tup [.int 0]]], .tup [.int 0, .int 1, .int 2]] S = .ok (.tup [.int 4, .int 1, .int 0]) S := r1
  have f : ∀ d S, fRepr [d] S = need (reprD S d) fun x => .ok (.str x) S := fun _ _ => rfl
  have hx : ∀ S, reprD S (.tup [.int 4, .int 1, .int 0]) = some "(4, 1, 0)" := fun S => by
    rw [reprD_is (by decide +kernel) (by decide +kernel) (by decide +kernel) (by decide +kernel)]
    decide +kernel
  have e1 : ∀ S, eqD S (.str "(4, 1, 0)") (.str "(4, 1, 0)") = some true := fun S => by rw [eqD_str]; decide +kernel
  simp [QL, r1, f, hx, e1]
theorem law_true (ns : List Int) (h : ns.length ≤ 63) : Yes (m_law [.scr ns] []) := by
  obtain ⟨S0, e0, hS0⟩ := deck_run h
  have hb : bnd62 10 = true := bnd_of (by decide) (by decide)
  have hl : (rgD 0 10).length = 10 := by simp [rgD]
  have loop := for_to (ok := cellOk ⟨[], rgD 0 10⟩) (mg := mgName 2) (ms := turnBody) (rgD 0 10) (fun k l S' => (∃ t2 t3 t4 t5, l = QL ns t2 t3 t4 t5) ∧ ∃ r, Dk (200 * k) r S') (loc := QL ns none none none none) (S := S0)
    ⟨⟨_, _, _, _, rfl⟩, _, hS0⟩ (fun _ _ _ _ _ => rfl) (fun k d l S' hk p => by
    obtain ⟨⟨t2, t3, t4, t5, rfl⟩, r, hS'⟩ := p
    have hk8 : k < 10 := by rw [← hl]; exact (List.getElem?_eq_some_iff.mp hk).1
    refine ⟨QL ns (some d) t3 t4 t5, rfl, ?_⟩
    exact OutS.To.imp' (turn_run' (by omega) hS') fun l S2 q => ⟨by obtain ⟨⟨t3, t4, t5, rfl⟩, _⟩ := q; exact ⟨_, _, _, _, rfl⟩, by obtain ⟨_, r', h⟩ := q; exact ⟨r', h.mono (by omega)⟩⟩)
  obtain ⟨l', S', e, ⟨t2, t3, t4, t5, rfl⟩, r, hS'⟩ := loop
  have st : sSet 1 (mFn m__law_deck (mCons (mVar 0) (mNil))) (startL 6 [.scr ns]) [] = .nx (QL ns none none none none) S0 := by simp [startL, QL, e0]
  have fr : ∀ ms, ms = turnBody → sFor (mRng1 (mCons (mC (.int 10)) (mNil))) (mgName 2) ms (QL ns none none none none) S0 = .nx (QL ns t2 t3 t4 t5) S' := fun ms hms => by
    rw [← hms] at e
    rw [← e]
    refine sFor_nx ?_
    simp [QL, hb]
  have rt : sRet endE (QL ns t2 t3 t4 t5) S' = .rt (.bl true) S' := by
    show (endE _ _).thn _ _ = _
    rw [end_run]; rfl
  have body : b_law (startL 6 [.scr ns]) [] = .rt (.bl true) S' := by
    rw [body_eq]
    exact (sCons_nx st).trans ((sCons_nx (fr _ rfl)).trans (sCons_rt rt))
  refine ⟨[], ?_⟩
  unfold m_law mDef
  rw [if_pos (show [D.scr ns].length = 1 from rfl), body]
  rfl

end Law

namespace Law
open PySem PySem.Spec PyProof.Rows L2 Md
theorem all_mk {l : PySem.W.OpenLaw} {w : World} {K : PySem.W.Frag} {h : Heap} {mg : Str → Option Value} {fa f0 f1 f2 f3 f4 f5 f6 f7 f8 f9 f10 f11 f12 f13 f14 f15 f16 f17 f18 f19 f20 f21 f22 : Addr} (X : K.In h) (G : h.Ns mainGlobals mg) (hfa : mg "law" = some (.ref fa))
    {od0 an0 od1 an1 od2 an2 od3 an3 od4 an4 od5 an5 od6 an6 od7 an7 od8 an8 od9 an9 od10 an10 od11 an11 od12 an12 od13 an13 od14 an14 od15 an15 od16 an16 od17 an17 od18 an18 od19 an19 od20 an20 od21 an21 od22 an22 : Option Addr} {sl0 sl1 sl2 sl3 sl4 sl5 sl6 sl7 sl8 sl9 sl10 sl11 sl12 sl13 sl14 sl15 sl16 sl17 sl18 sl19 sl20 sl21 sl22 : Array (Option Value)} {oc0 kv0 dc0 pm0 cd0 ct0 oc1 kv1 dc1 pm1 cd1 ct1 oc2 kv2 dc2 pm2 cd2 ct2 oc3 kv3 dc3 pm3 cd3 ct3 oc4 kv4 dc4 pm4 cd4 ct4 oc5 kv5 dc5 pm5 cd5 ct5 oc6 kv6 dc6 pm6 cd6 ct6 oc7 kv7 dc7 pm7 cd7 ct7 oc8 kv8 dc8 pm8 cd8 ct8 oc9 kv9 dc9 pm9 cd9 ct9 oc10 kv10 dc10 pm10 cd10 ct10 oc11 kv11 dc11 pm11 cd11 ct11 oc12 kv12 dc12 pm12 cd12 ct12 oc13 kv13 dc13 pm13 cd13 ct13 oc14 kv14 dc14 pm14 cd14 ct14 oc15 kv15 dc15 pm15 cd15 ct15 oc16 kv16 dc16 pm16 cd16 ct16 oc17 kv17 dc17 pm17 cd17 ct17 oc18 kv18 dc18 pm18 cd18 ct18 oc19 kv19 dc19 pm19 cd19 ct19 oc20 kv20 dc20 pm20 cd20 ct20 oc21 kv21 dc21 pm21 cd21 ct21 oc22 kv22 dc22 pm22 cd22 ct22 : Value}
    {kc_Passes : Addr} (ka_Passes : PySem.W.nsIn K mainGlobals "Passes" = some (some (.ref kc_Passes)))
    (kpg_Passes : PySem.W.plainGet K kc_Passes Str.empty = true)
    (khd_Passes : PySem.W.hasDictIn K kc_Passes = true)
    (kpo_Passes : PySem.W.plainOver K kc_Passes = true)
    (ksa_Passes : PySem.W.findIn K (.ref kc_Passes) "__setattr__" = some (some (.builtin "object.__setattr__")))
    (kmk_Passes : PySem.W.makesIn K kc_Passes = true)
    (kkp_Passes : PySem.W.keepIn K (.ref kc_Passes) = true)
    (kn_is_queue_Passes : PySem.W.findIn K (.ref kc_Passes) "is_queue" = some none)
    (kn_known_Passes : PySem.W.findIn K (.ref kc_Passes) "known" = some none)
    (kn_many_Passes : PySem.W.findIn K (.ref kc_Passes) "many" = some none)
    (kn_peaks_Passes : PySem.W.findIn K (.ref kc_Passes) "peaks" = some none)
    (kn_uses_Passes : PySem.W.findIn K (.ref kc_Passes) "uses" = some none)
    (kn_wants_Passes : PySem.W.findIn K (.ref kc_Passes) "wants" = some none)
    (a0 : PySem.W.nsIn K mainGlobals "_law_deck" = some (some (.ref f0))) (l0 : K.lookup f0 = some ⟨oc0, od0, .func (PySem.W.fnOf "_law_deck" "_law_deck" (defArgs s__law_deck) (defBody s__law_deck) (defScope s__law_deck) .none kv0 dc0 pm0 an0 cd0 ct0), sl0⟩) (c0 : PySem.W.codeIn K cd0 "_law_deck" = true) (k0 : PySem.W.keepIn K (.ref f0) = true)
    (a1 : PySem.W.nsIn K mainGlobals "_law_draw" = some (some (.ref f1))) (l1 : K.lookup f1 = some ⟨oc1, od1, .func (PySem.W.fnOf "_law_draw" "_law_draw" (defArgs s__law_draw) (defBody s__law_draw) (defScope s__law_draw) .none kv1 dc1 pm1 an1 cd1 ct1), sl1⟩) (c1 : PySem.W.codeIn K cd1 "_law_draw" = true) (k1 : PySem.W.keepIn K (.ref f1) = true)
    (a2 : PySem.W.nsIn K mainGlobals "_law_mixed" = some (some (.ref f2))) (l2 : K.lookup f2 = some ⟨oc2, od2, .func (PySem.W.fnOf "_law_mixed" "_law_mixed" (defArgs s__law_mixed) (defBody s__law_mixed) (defScope s__law_mixed) .none kv2 dc2 pm2 an2 cd2 ct2), sl2⟩) (c2 : PySem.W.codeIn K cd2 "_law_mixed" = true) (k2 : PySem.W.keepIn K (.ref f2) = true)
    (a3 : PySem.W.nsIn K mainGlobals "_law_renumbered" = some (some (.ref f3))) (l3 : K.lookup f3 = some ⟨oc3, od3, .func (PySem.W.fnOf "_law_renumbered" "_law_renumbered" (defArgs s__law_renumbered) (defBody s__law_renumbered) (defScope s__law_renumbered) .none kv3 dc3 pm3 an3 cd3 ct3), sl3⟩) (c3 : PySem.W.codeIn K cd3 "_law_renumbered" = true) (k3 : PySem.W.keepIn K (.ref f3) = true)
    (a4 : PySem.W.nsIn K mainGlobals "_law_one" = some (some (.ref f4))) (l4 : K.lookup f4 = some ⟨oc4, od4, .func (PySem.W.fnOf "_law_one" "_law_one" (defArgs s__law_one) (defBody s__law_one) (defScope s__law_one) .none kv4 dc4 pm4 an4 cd4 ct4), sl4⟩) (c4 : PySem.W.codeIn K cd4 "_law_one" = true) (k4 : PySem.W.keepIn K (.ref f4) = true)
    (a5 : PySem.W.nsIn K mainGlobals "_law_kind" = some (some (.ref f5))) (l5 : K.lookup f5 = some ⟨oc5, od5, .func (PySem.W.fnOf "_law_kind" "_law_kind" (defArgs s__law_kind) (defBody s__law_kind) (defScope s__law_kind) .none kv5 dc5 pm5 an5 cd5 ct5), sl5⟩) (c5 : PySem.W.codeIn K cd5 "_law_kind" = true) (k5 : PySem.W.keepIn K (.ref f5) = true)
    (a6 : PySem.W.nsIn K mainGlobals "_law_woven" = some (some (.ref f6))) (l6 : K.lookup f6 = some ⟨oc6, od6, .func (PySem.W.fnOf "_law_woven" "_law_woven" (defArgs s__law_woven) (defBody s__law_woven) (defScope s__law_woven) .none kv6 dc6 pm6 an6 cd6 ct6), sl6⟩) (c6 : PySem.W.codeIn K cd6 "_law_woven" = true) (k6 : PySem.W.keepIn K (.ref f6) = true)
    (a7 : PySem.W.findIn K (.ref kc_Passes) "is_done" = some (some (.ref f7))) (l7 : K.lookup f7 = some ⟨oc7, od7, .func (PySem.W.fnOf "is_done" "Passes.is_done" (defArgs s_Passes_is_done) (defBody s_Passes_is_done) (defScope s_Passes_is_done) .none kv7 dc7 pm7 an7 cd7 ct7), sl7⟩) (c7 : PySem.W.codeIn K cd7 "Passes.is_done" = true) (k7 : PySem.W.keepIn K (.ref f7) = true)
    (i7 : PySem.W.isFn K (.ref f7) = true)
    (a8 : PySem.W.findIn K (.ref kc_Passes) "cells" = some (some (.ref f8))) (l8 : K.lookup f8 = some ⟨oc8, od8, .func (PySem.W.fnOf "cells" "Passes.cells" (defArgs s_Passes_cells) (defBody s_Passes_cells) (defScope s_Passes_cells) .none kv8 dc8 pm8 an8 cd8 ct8), sl8⟩) (c8 : PySem.W.codeIn K cd8 "Passes.cells" = true) (k8 : PySem.W.keepIn K (.ref f8) = true)
    (i8 : PySem.W.isFn K (.ref f8) = true)
    (a9 : PySem.W.findIn K (.ref kc_Passes) "behind" = some (some (.ref f9))) (l9 : K.lookup f9 = some ⟨oc9, od9, .func (PySem.W.fnOf "behind" "Passes.behind" (defArgs s_Passes_behind) (defBody s_Passes_behind) (defScope s_Passes_behind) .none kv9 dc9 pm9 an9 cd9 ct9), sl9⟩) (c9 : PySem.W.codeIn K cd9 "Passes.behind" = true) (k9 : PySem.W.keepIn K (.ref f9) = true)
    (i9 : PySem.W.isFn K (.ref f9) = true)
    (a10 : PySem.W.findIn K (.ref kc_Passes) "finds" = some (some (.ref f10))) (l10 : K.lookup f10 = some ⟨oc10, od10, .func (PySem.W.fnOf "finds" "Passes.finds" (defArgs s_Passes_finds) (defBody s_Passes_finds) (defScope s_Passes_finds) .none kv10 dc10 pm10 an10 cd10 ct10), sl10⟩) (c10 : PySem.W.codeIn K cd10 "Passes.finds" = true) (k10 : PySem.W.keepIn K (.ref f10) = true)
    (i10 : PySem.W.isFn K (.ref f10) = true)
    (a11 : PySem.W.findIn K (.ref kc_Passes) "nexts" = some (some (.ref f11))) (l11 : K.lookup f11 = some ⟨oc11, od11, .func (PySem.W.fnOf "nexts" "Passes.nexts" (defArgs s_Passes_nexts) (defBody s_Passes_nexts) (defScope s_Passes_nexts) .none kv11 dc11 pm11 an11 cd11 ct11), sl11⟩) (c11 : PySem.W.codeIn K cd11 "Passes.nexts" = true) (k11 : PySem.W.keepIn K (.ref f11) = true)
    (i11 : PySem.W.isFn K (.ref f11) = true)
    (a12 : PySem.W.findIn K (.ref kc_Passes) "ways" = some (some (.ref f12))) (l12 : K.lookup f12 = some ⟨oc12, od12, .func (PySem.W.fnOf "ways" "Passes.ways" (defArgs s_Passes_ways) (defBody s_Passes_ways) (defScope s_Passes_ways) .none kv12 dc12 pm12 an12 cd12 ct12), sl12⟩) (c12 : PySem.W.codeIn K cd12 "Passes.ways" = true) (k12 : PySem.W.keepIn K (.ref f12) = true)
    (i12 : PySem.W.isFn K (.ref f12) = true)
    (a13 : PySem.W.findIn K (.ref kc_Passes) "orders" = some (some (.ref f13))) (l13 : K.lookup f13 = some ⟨oc13, od13, .func (PySem.W.fnOf "orders" "Passes.orders" (defArgs s_Passes_orders) (defBody s_Passes_orders) (defScope s_Passes_orders) .none kv13 dc13 pm13 an13 cd13 ct13), sl13⟩) (c13 : PySem.W.codeIn K cd13 "Passes.orders" = true) (k13 : PySem.W.keepIn K (.ref f13) = true)
    (i13 : PySem.W.isFn K (.ref f13) = true)
    (a14 : PySem.W.findIn K (.ref kc_Passes) "first_order" = some (some (.ref f14))) (l14 : K.lookup f14 = some ⟨oc14, od14, .func (PySem.W.fnOf "first_order" "Passes.first_order" (defArgs s_Passes_first_order) (defBody s_Passes_first_order) (defScope s_Passes_first_order) .none kv14 dc14 pm14 an14 cd14 ct14), sl14⟩) (c14 : PySem.W.codeIn K cd14 "Passes.first_order" = true) (k14 : PySem.W.keepIn K (.ref f14) = true)
    (i14 : PySem.W.isFn K (.ref f14) = true)
    (a15 : PySem.W.nsIn K mainGlobals "ties" = some (some (.ref f15))) (l15 : K.lookup f15 = some ⟨oc15, od15, .func (PySem.W.fnOf "ties" "ties" (defArgs s_ties) (defBody s_ties) (defScope s_ties) .none kv15 dc15 pm15 an15 cd15 ct15), sl15⟩) (c15 : PySem.W.codeIn K cd15 "ties" = true) (k15 : PySem.W.keepIn K (.ref f15) = true)
    (a16 : PySem.W.findIn K (.ref kc_Passes) "__init__" = some (some (.ref f16))) (l16 : K.lookup f16 = some ⟨oc16, od16, .func (PySem.W.fnOf "__init__" "Passes.__init__" (defArgs s_Passes___init__) (defBody s_Passes___init__) (defScope s_Passes___init__) .none kv16 dc16 pm16 an16 cd16 ct16), sl16⟩) (c16 : PySem.W.codeIn K cd16 "Passes.__init__" = true) (k16 : PySem.W.keepIn K (.ref f16) = true)
    (i16 : PySem.W.isFn K (.ref f16) = true)
    (a17 : PySem.W.nsIn K mainGlobals "order_of" = some (some (.ref f17))) (l17 : K.lookup f17 = some ⟨oc17, od17, .func (PySem.W.fnOf "order_of" "order_of" (defArgs s_order_of) (defBody s_order_of) (defScope s_order_of) .none kv17 dc17 pm17 an17 cd17 ct17), sl17⟩) (c17 : PySem.W.codeIn K cd17 "order_of" = true) (k17 : PySem.W.keepIn K (.ref f17) = true)
    (a18 : PySem.W.nsIn K mainGlobals "heights" = some (some (.ref f18))) (l18 : K.lookup f18 = some ⟨oc18, od18, .func (PySem.W.fnOf "heights" "heights" (defArgs s_heights) (defBody s_heights) (defScope s_heights) .none kv18 dc18 pm18 an18 cd18 ct18), sl18⟩) (c18 : PySem.W.codeIn K cd18 "heights" = true) (k18 : PySem.W.keepIn K (.ref f18) = true)
    (a19 : PySem.W.nsIn K mainGlobals "_law_inputs" = some (some (.ref f19))) (l19 : K.lookup f19 = some ⟨oc19, od19, .func (PySem.W.fnOf "_law_inputs" "_law_inputs" (defArgs s__law_inputs) (defBody s__law_inputs) (defScope s__law_inputs) .none kv19 dc19 pm19 an19 cd19 ct19), sl19⟩) (c19 : PySem.W.codeIn K cd19 "_law_inputs" = true) (k19 : PySem.W.keepIn K (.ref f19) = true)
    (a20 : PySem.W.nsIn K mainGlobals "_law_ties" = some (some (.ref f20))) (l20 : K.lookup f20 = some ⟨oc20, od20, .func (PySem.W.fnOf "_law_ties" "_law_ties" (defArgs s__law_ties) (defBody s__law_ties) (defScope s__law_ties) .none kv20 dc20 pm20 an20 cd20 ct20), sl20⟩) (c20 : PySem.W.codeIn K cd20 "_law_ties" = true) (k20 : PySem.W.keepIn K (.ref f20) = true)
    (a21 : PySem.W.nsIn K mainGlobals "_law_heights" = some (some (.ref f21))) (l21 : K.lookup f21 = some ⟨oc21, od21, .func (PySem.W.fnOf "_law_heights" "_law_heights" (defArgs s__law_heights) (defBody s__law_heights) (defScope s__law_heights) .none kv21 dc21 pm21 an21 cd21 ct21), sl21⟩) (c21 : PySem.W.codeIn K cd21 "_law_heights" = true) (k21 : PySem.W.keepIn K (.ref f21) = true)
    (a22 : PySem.W.nsIn K mainGlobals "law" = some (some (.ref f22))) (l22 : K.lookup f22 = some ⟨oc22, od22, .func (PySem.W.fnOf "law" "law" (defArgs s_law) (defBody s_law) (defScope s_law) .none kv22 dc22 pm22 an22 cd22 ct22), sl22⟩) (c22 : PySem.W.codeIn K cd22 "law" = true) (k22 : PySem.W.keepIn K (.ref f22) = true)
    (z_abs : PySem.W.nsIn K mainGlobals "abs" = some none)
    (z_dict : PySem.W.nsIn K mainGlobals "dict" = some none)
    (z_enumerate : PySem.W.nsIn K mainGlobals "enumerate" = some none)
    (z_int : PySem.W.nsIn K mainGlobals "int" = some none)
    (z_len : PySem.W.nsIn K mainGlobals "len" = some none)
    (z_list : PySem.W.nsIn K mainGlobals "list" = some none)
    (z_min : PySem.W.nsIn K mainGlobals "min" = some none)
    (z_range : PySem.W.nsIn K mainGlobals "range" = some none)
    (z_repr : PySem.W.nsIn K mainGlobals "repr" = some none)
    (z_sorted : PySem.W.nsIn K mainGlobals "sorted" = some none)
    (z_sum : PySem.W.nsIn K mainGlobals "sum" = some none)
    (z_tuple : PySem.W.nsIn K mainGlobals "tuple" = some none)
    : ∃ fd : FuncData, (∀ (s : Shared) (v : Value), BindsTo s fd ⟨[v], []⟩ [("script", v)]) ∧ ∀ base : Heap, K.In base → base.Ns mainGlobals mg → FnG l.prog w K mg base 22 fa fd ["script"] m_law := by
  have e := hfa.symm.trans (PySem.W.mg_of X G a22)
  cases e
  have K_Passes : ClK K "Passes" kc_Passes := ⟨ka_Passes, kpg_Passes, khd_Passes, kpo_Passes, ksa_Passes⟩
  have fl_is_queue : ∀ c ∈ [("Passes" : Str)], ∃ C, ClK K c C ∧ NoAttr K C "is_queue" := fun c h => by
    simp only [List.mem_cons, List.not_mem_nil, or_false] at h
    subst h
    · exact ⟨_, K_Passes, kn_is_queue_Passes⟩
  have fl_known : ∀ c ∈ [("Passes" : Str)], ∃ C, ClK K c C ∧ NoAttr K C "known" := fun c h => by
    simp only [List.mem_cons, List.not_mem_nil, or_false] at h
    subst h
    · exact ⟨_, K_Passes, kn_known_Passes⟩
  have fl_many : ∀ c ∈ [("Passes" : Str)], ∃ C, ClK K c C ∧ NoAttr K C "many" := fun c h => by
    simp only [List.mem_cons, List.not_mem_nil, or_false] at h
    subst h
    · exact ⟨_, K_Passes, kn_many_Passes⟩
  have fl_peaks : ∀ c ∈ [("Passes" : Str)], ∃ C, ClK K c C ∧ NoAttr K C "peaks" := fun c h => by
    simp only [List.mem_cons, List.not_mem_nil, or_false] at h
    subst h
    · exact ⟨_, K_Passes, kn_peaks_Passes⟩
  have fl_uses : ∀ c ∈ [("Passes" : Str)], ∃ C, ClK K c C ∧ NoAttr K C "uses" := fun c h => by
    simp only [List.mem_cons, List.not_mem_nil, or_false] at h
    subst h
    · exact ⟨_, K_Passes, kn_uses_Passes⟩
  have fl_wants : ∀ c ∈ [("Passes" : Str)], ∃ C, ClK K c C ∧ NoAttr K C "wants" := fun c h => by
    simp only [List.mem_cons, List.not_mem_nil, or_false] at h
    subst h
    · exact ⟨_, K_Passes, kn_wants_Passes⟩
  have T : Txt K mg := ⟨PySem.W.mg_none_of X G z_abs, PySem.W.mg_none_of X G z_dict, PySem.W.mg_none_of X G z_enumerate, PySem.W.mg_none_of X G z_int, PySem.W.mg_none_of X G z_len, PySem.W.mg_none_of X G z_list, PySem.W.mg_none_of X G z_min, PySem.W.mg_none_of X G z_range, PySem.W.mg_none_of X G z_repr, PySem.W.mg_none_of X G z_sorted, PySem.W.mg_none_of X G z_sum, PySem.W.mg_none_of X G z_tuple, kwAt (fun_mk (st := s_heights) l18 c18 k18) (PySem.W.mg_of X G a18) (fun _ _ _ _ _ _ us ws hu hw => match us, hu, ws, hw with | [], _, [_, _], _ => rfl), fl_is_queue, fl_known, fl_many, fl_peaks, fl_uses, fl_wants⟩
  have F0 := fun_mk (st := s__law_deck) l0 c0 k0
  have A0 : FunAt K mg "_law_deck" s__law_deck ["script"] := ⟨_, _, F0, PySem.W.mg_of X G a0, F0.binds fun _ _ _ _ _ _ us hl => match us, hl with | [_], _ => rfl⟩
  have F1 := fun_mk (st := s__law_draw) l1 c1 k1
  have A1 : FunAt K mg "_law_draw" s__law_draw ["deck", "many"] := ⟨_, _, F1, PySem.W.mg_of X G a1, F1.binds fun _ _ _ _ _ _ us hl => match us, hl with | [_, _], _ => rfl⟩
  have F2 := fun_mk (st := s__law_mixed) l2 c2 k2
  have A2 : FunAt K mg "_law_mixed" s__law_mixed ["deck", "items"] := ⟨_, _, F2, PySem.W.mg_of X G a2, F2.binds fun _ _ _ _ _ _ us hl => match us, hl with | [_, _], _ => rfl⟩
  have F3 := fun_mk (st := s__law_renumbered) l3 c3 k3
  have A3 : FunAt K mg "_law_renumbered" s__law_renumbered ["web", "order"] := ⟨_, _, F3, PySem.W.mg_of X G a3, F3.binds fun _ _ _ _ _ _ us hl => match us, hl with | [_, _], _ => rfl⟩
  have F4 := fun_mk (st := s__law_one) l4 c4 k4
  have A4 : FunAt K mg "_law_one" s__law_one ["deck", "items"] := ⟨_, _, F4, PySem.W.mg_of X G a4, F4.binds fun _ _ _ _ _ _ us hl => match us, hl with | [_, _], _ => rfl⟩
  have F5 := fun_mk (st := s__law_kind) l5 c5 k5
  have A5 : FunAt K mg "_law_kind" s__law_kind ["deck", "many"] := ⟨_, _, F5, PySem.W.mg_of X G a5, F5.binds fun _ _ _ _ _ _ us hl => match us, hl with | [_, _], _ => rfl⟩
  have F6 := fun_mk (st := s__law_woven) l6 c6 k6
  have A6 : FunAt K mg "_law_woven" s__law_woven ["deck", "most", "is_queue"] := ⟨_, _, F6, PySem.W.mg_of X G a6, F6.binds fun _ _ _ _ _ _ us hl => match us, hl with | [_, _, _], _ => rfl⟩
  have F7 := fun_mk (st := s_Passes_is_done) l7 c7 k7
  have A7 : MFun K "Passes" "is_done" "Passes.is_done" s_Passes_is_done ["self", "done"] := ⟨_, _, _, K_Passes, F7, ⟨a7, i7, k7⟩, F7.binds fun _ _ _ _ _ _ us hl => match us, hl with | [_, _], _ => rfl⟩
  have F8 := fun_mk (st := s_Passes_cells) l8 c8 k8
  have A8 : MFun K "Passes" "cells" "Passes.cells" s_Passes_cells ["self", "done", "giver"] := ⟨_, _, _, K_Passes, F8, ⟨a8, i8, k8⟩, F8.binds fun _ _ _ _ _ _ us hl => match us, hl with | [_, _, _], _ => rfl⟩
  have F9 := fun_mk (st := s_Passes_behind) l9 c9 k9
  have A9 : MFun K "Passes" "behind" "Passes.behind" s_Passes_behind ["self", "done", "line", "step"] := ⟨_, _, _, K_Passes, F9, ⟨a9, i9, k9⟩, F9.binds fun _ _ _ _ _ _ us hl => match us, hl with | [_, _, _, _], _ => rfl⟩
  have F10 := fun_mk (st := s_Passes_finds) l10 c10 k10
  have A10 : MFun K "Passes" "finds" "Passes.finds" s_Passes_finds ["self", "done", "line", "step"] := ⟨_, _, _, K_Passes, F10, ⟨a10, i10, k10⟩, F10.binds fun _ _ _ _ _ _ us hl => match us, hl with | [_, _, _, _], _ => rfl⟩
  have F11 := fun_mk (st := s_Passes_nexts) l11 c11 k11
  have A11 : MFun K "Passes" "nexts" "Passes.nexts" s_Passes_nexts ["self", "done", "line"] := ⟨_, _, _, K_Passes, F11, ⟨a11, i11, k11⟩, F11.binds fun _ _ _ _ _ _ us hl => match us, hl with | [_, _, _], _ => rfl⟩
  have F12 := fun_mk (st := s_Passes_ways) l12 c12 k12
  have A12 : MFun K "Passes" "ways" "Passes.ways" s_Passes_ways ["self", "done", "line"] := ⟨_, _, _, K_Passes, F12, ⟨a12, i12, k12⟩, F12.binds fun _ _ _ _ _ _ us hl => match us, hl with | [_, _, _], _ => rfl⟩
  have F13 := fun_mk (st := s_Passes_orders) l13 c13 k13
  have A13 : MFun K "Passes" "orders" "Passes.orders" s_Passes_orders ["self"] := ⟨_, _, _, K_Passes, F13, ⟨a13, i13, k13⟩, F13.binds fun _ _ _ _ _ _ us hl => match us, hl with | [_], _ => rfl⟩
  have F14 := fun_mk (st := s_Passes_first_order) l14 c14 k14
  have A14 : MFun K "Passes" "first_order" "Passes.first_order" s_Passes_first_order ["self"] := ⟨_, _, _, K_Passes, F14, ⟨a14, i14, k14⟩, F14.binds fun _ _ _ _ _ _ us hl => match us, hl with | [_], _ => rfl⟩
  have F15 := fun_mk (st := s_ties) l15 c15 k15
  have A15 : FunAt K mg "ties" s_ties ["web"] := ⟨_, _, F15, PySem.W.mg_of X G a15, F15.binds fun _ _ _ _ _ _ us hl => match us, hl with | [_], _ => rfl⟩
  have F16 := fun_mk (st := s_Passes___init__) l16 c16 k16
  have A16 : IFun K mg "Passes" "Passes.__init__" s_Passes___init__ ["self", "web", "is_queue"] := ⟨_, _, _, K_Passes, PySem.W.mg_of X G ka_Passes, ⟨kmk_Passes, a16, i16, kkp_Passes⟩, F16, F16.binds fun _ _ _ _ _ _ us hl => match us, hl with | [_, _, _], _ => rfl⟩
  have F17 := fun_mk (st := s_order_of) l17 c17 k17
  have A17 : FunAt K mg "order_of" s_order_of ["web"] := ⟨_, _, F17, PySem.W.mg_of X G a17, F17.binds fun _ _ _ _ _ _ us hl => match us, hl with | [_], _ => rfl⟩
  have F18 := fun_mk (st := s_heights) l18 c18 k18
  have A18 : FunAt K mg "heights" s_heights ["web", "order"] := ⟨_, _, F18, PySem.W.mg_of X G a18, F18.binds fun _ _ _ _ _ _ us hl => match us, hl with | [_, _], _ => rfl⟩
  have F19 := fun_mk (st := s__law_inputs) l19 c19 k19
  have A19 : FunAt K mg "_law_inputs" s__law_inputs ["web"] := ⟨_, _, F19, PySem.W.mg_of X G a19, F19.binds fun _ _ _ _ _ _ us hl => match us, hl with | [_], _ => rfl⟩
  have F20 := fun_mk (st := s__law_ties) l20 c20 k20
  have A20 : FunAt K mg "_law_ties" s__law_ties ["web"] := ⟨_, _, F20, PySem.W.mg_of X G a20, F20.binds fun _ _ _ _ _ _ us hl => match us, hl with | [_], _ => rfl⟩
  have F21 := fun_mk (st := s__law_heights) l21 c21 k21
  have A21 : FunAt K mg "_law_heights" s__law_heights ["web", "order"] := ⟨_, _, F21, PySem.W.mg_of X G a21, F21.binds fun _ _ _ _ _ _ us hl => match us, hl with | [_, _], _ => rfl⟩
  have F22 := fun_mk (st := s_law) l22 c22 k22
  refine ⟨PySem.W.fnOf "law" "law" (defArgs s_law) (defBody s_law) (defScope s_law) .none kv22 dc22 pm22 an22 cd22 ct22, fun s v => .of_eq rfl, fun base _ _ => ?_⟩
  have G__law_deck := d__law_deck (P := l.prog) (w := w) (base := base) T A0 
  have G__law_draw := d__law_draw (P := l.prog) (w := w) (base := base) T A1 
  have G__law_mixed := d__law_mixed (P := l.prog) (w := w) (base := base) T A2 G__law_draw
  have G__law_renumbered := d__law_renumbered (P := l.prog) (w := w) (base := base) T A3 
  have G__law_one := d__law_one (P := l.prog) (w := w) (base := base) T A4 G__law_draw
  have G__law_kind := d__law_kind (P := l.prog) (w := w) (base := base) T A5 G__law_one G__law_draw
  have G__law_woven := d__law_woven (P := l.prog) (w := w) (base := base) T A6 G__law_mixed G__law_renumbered G__law_draw G__law_one G__law_kind
  have G_Passes_is_done := d_Passes_is_done (P := l.prog) (w := w) (base := base) T A7 
  have G_Passes_cells := d_Passes_cells (P := l.prog) (w := w) (base := base) T A8 
  have G_Passes_behind := d_Passes_behind (P := l.prog) (w := w) (base := base) T A9 G_Passes_cells
  have G_Passes_finds := d_Passes_finds (P := l.prog) (w := w) (base := base) T A10 G_Passes_cells
  have G_Passes_nexts := d_Passes_nexts (P := l.prog) (w := w) (base := base) T A11 G_Passes_behind G_Passes_finds
  have G_Passes_ways := d_Passes_ways (P := l.prog) (w := w) (base := base) T A12 G_Passes_is_done G_Passes_nexts 12
  have G_Passes_orders := d_Passes_orders (P := l.prog) (w := w) (base := base) T A13 G_Passes_is_done G_Passes_nexts G_Passes_ways
  have G_Passes_first_order := d_Passes_first_order (P := l.prog) (w := w) (base := base) T A14 G_Passes_orders
  have G_ties := d_ties (P := l.prog) (w := w) (base := base) T A15 
  have G_Passes___init__ := d_Passes___init__ (P := l.prog) (w := w) (base := base) T A16 G_ties
  have G_order_of := d_order_of (P := l.prog) (w := w) (base := base) T A17 G_Passes_first_order G_Passes___init__
  have G_heights := d_heights (P := l.prog) (w := w) (base := base) T A18 G_ties
  have G__law_inputs := d__law_inputs (P := l.prog) (w := w) (base := base) T A19 
  have G__law_ties := d__law_ties (P := l.prog) (w := w) (base := base) T A20 G__law_inputs
  have G__law_heights := d__law_heights (P := l.prog) (w := w) (base := base) T A21 G__law_ties
  exact d_law T F22 G__law_deck G__law_woven G__law_one G_order_of G_heights G__law_heights
theorem walk {l : PySem.W.OpenLaw} {q : Program} {loose : List Str} {XP : (Str → Option Value) → Heap → Prop} {YP : World → Heap → Prop} {d : DefRec} {K : Params → PySem.W.Frag} (hn : l.most = some 63) (hdf : d.params.defaults = [])
    (hY : ∀ (w : World) (h : Heap), YP w h → (K w.params).In h)
    (F : ∀ (w : World) (mg : Str → Option Value) (fa : Addr) (h : Heap), (K w.params).In h → h.Ns mainGlobals mg → mg d.name = some (.ref fa) →
      ∃ fd : FuncData, (∀ (s : Shared) (u : Value), BindsTo s fd ⟨[u], []⟩ [("script", u)]) ∧ ∀ base : Heap, (K w.params).In base → base.Ns mainGlobals mg → FnG l.prog w (K w.params) mg base 22 fa fd ["script"] m_law) :
    PySem.W.WalkO q loose XP YP l.row.toRowW d [] (fun f vs => PySem.call f vs) :=
  walkG (n := 63) (k := 22) (x := "script") (m := fun _ => m_law) hn (by decide) hdf ⟨rfl, by decide, by decide⟩ hY F fun _ ns h => law_true ns h
end Law
open PySem PySem.W PyProof.Rows in
set_option maxRecDepth 100000 in
set_option maxHeartbeats 0 in
theorem PySem.Challenge.cw_pilepass_k30_heights_of_orders_holds : PySem.Challenge.rw_pilepass_k30_heights_of_orders.Holds := by
  w_on; o_law; k_head; (case hw => w_witness2)
  k_fill
  refine Law.walk (l := PySem.Challenge.rw_pilepass_k30_heights_of_orders) rfl rfl (fun w h Y => PySem.W.kIn_of Y) ?F
  case F =>
    intro w mg fa h KX G hmg
    refine' Law.all_mk KX G hmg ?ka_Passes ?kpg_Passes ?khd_Passes ?kpo_Passes ?ksa_Passes ?kmk_Passes ?kkp_Passes ?kn_is_queue_Passes ?kn_known_Passes ?kn_many_Passes ?kn_peaks_Passes ?kn_uses_Passes ?kn_wants_Passes ?a0 ?l0 ?c0 ?k0 ?a1 ?l1 ?c1 ?k1 ?a2 ?l2 ?c2 ?k2 ?a3 ?l3 ?c3 ?k3 ?a4 ?l4 ?c4 ?k4 ?a5 ?l5 ?c5 ?k5 ?a6 ?l6 ?c6 ?k6 ?a7 ?l7 ?c7 ?k7 ?i7 ?a8 ?l8 ?c8 ?k8 ?i8 ?a9 ?l9 ?c9 ?k9 ?i9 ?a10 ?l10 ?c10 ?k10 ?i10 ?a11 ?l11 ?c11 ?k11 ?i11 ?a12 ?l12 ?c12 ?k12 ?i12 ?a13 ?l13 ?c13 ?k13 ?i13 ?a14 ?l14 ?c14 ?k14 ?i14 ?a15 ?l15 ?c15 ?k15 ?a16 ?l16 ?c16 ?k16 ?i16 ?a17 ?l17 ?c17 ?k17 ?a18 ?l18 ?c18 ?k18 ?a19 ?l19 ?c19 ?k19 ?a20 ?l20 ?c20 ?k20 ?a21 ?l21 ?c21 ?k21 ?a22 ?l22 ?c22 ?k22 ?z_abs ?z_dict ?z_enumerate ?z_int ?z_len ?z_list ?z_min ?z_range ?z_repr ?z_sorted ?z_sum ?z_tuple
    (case ka_Passes => k_is)
    (case kpg_Passes => k_is)
    (case khd_Passes => k_is)
    (case kpo_Passes => k_is)
    (case ksa_Passes => k_is)
    (case kmk_Passes => k_is)
    (case kkp_Passes => k_is)
    (case kn_is_queue_Passes => k_is)
    (case kn_known_Passes => k_is)
    (case kn_many_Passes => k_is)
    (case kn_peaks_Passes => k_is)
    (case kn_uses_Passes => k_is)
    (case kn_wants_Passes => k_is)
    (case a0 => k_is)
    (case l0 => k_is)
    (case c0 => k_is)
    (case k0 => k_is)
    (case a1 => k_is)
    (case l1 => k_is)
    (case c1 => k_is)
    (case k1 => k_is)
    (case a2 => k_is)
    (case l2 => k_is)
    (case c2 => k_is)
    (case k2 => k_is)
    (case a3 => k_is)
    (case l3 => k_is)
    (case c3 => k_is)
    (case k3 => k_is)
    (case a4 => k_is)
    (case l4 => k_is)
    (case c4 => k_is)
    (case k4 => k_is)
    (case a5 => k_is)
    (case l5 => k_is)
    (case c5 => k_is)
    (case k5 => k_is)
    (case a6 => k_is)
    (case l6 => k_is)
    (case c6 => k_is)
    (case k6 => k_is)
    (case a7 => k_is)
    (case l7 => k_is)
    (case c7 => k_is)
    (case k7 => k_is)
    (case i7 => k_is)
    (case a8 => k_is)
    (case l8 => k_is)
    (case c8 => k_is)
    (case k8 => k_is)
    (case i8 => k_is)
    (case a9 => k_is)
    (case l9 => k_is)
    (case c9 => k_is)
    (case k9 => k_is)
    (case i9 => k_is)
    (case a10 => k_is)
    (case l10 => k_is)
    (case c10 => k_is)
    (case k10 => k_is)
    (case i10 => k_is)
    (case a11 => k_is)
    (case l11 => k_is)
    (case c11 => k_is)
    (case k11 => k_is)
    (case i11 => k_is)
    (case a12 => k_is)
    (case l12 => k_is)
    (case c12 => k_is)
    (case k12 => k_is)
    (case i12 => k_is)
    (case a13 => k_is)
    (case l13 => k_is)
    (case c13 => k_is)
    (case k13 => k_is)
    (case i13 => k_is)
    (case a14 => k_is)
    (case l14 => k_is)
    (case c14 => k_is)
    (case k14 => k_is)
    (case i14 => k_is)
    (case a15 => k_is)
    (case l15 => k_is)
    (case c15 => k_is)
    (case k15 => k_is)
    (case a16 => k_is)
    (case l16 => k_is)
    (case c16 => k_is)
    (case k16 => k_is)
    (case i16 => k_is)
    (case a17 => k_is)
    (case l17 => k_is)
    (case c17 => k_is)
    (case k17 => k_is)
    (case a18 => k_is)
    (case l18 => k_is)
    (case c18 => k_is)
    (case k18 => k_is)
    (case a19 => k_is)
    (case l19 => k_is)
    (case c19 => k_is)
    (case k19 => k_is)
    (case a20 => k_is)
    (case l20 => k_is)
    (case c20 => k_is)
    (case k20 => k_is)
    (case a21 => k_is)
    (case l21 => k_is)
    (case c21 => k_is)
    (case k21 => k_is)
    (case a22 => k_is)
    (case l22 => k_is)
    (case c22 => k_is)
    (case k22 => k_is)
    (case z_abs => k_is)
    (case z_dict => k_is)
    (case z_enumerate => k_is)
    (case z_int => k_is)
    (case z_len => k_is)
    (case z_list => k_is)
    (case z_min => k_is)
    (case z_range => k_is)
    (case z_repr => k_is)
    (case z_sorted => k_is)
    (case z_sum => k_is)
    (case z_tuple => k_is)