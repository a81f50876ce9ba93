import PyProof.Rows.All
import Wide.All
import OpenK.AllK
import Wide.FinOn
import HandS.ForMost
import HandS.OwnEq
import KE.KCallOwn
import HandS.SortKw
import HandS.Defaults
import HandS.MakeKw
import PyProof.NeKinds
import KE.SortKeyHeap
import HandS.Lambda
import HandS.EndTab
import KE.GoesEnum
import PyProof.StrBlock2
import HandS.Walk
import HandS.Strs
import HandS.TupAny
import HandS.ForExc
import HandS.IsInst
import HandS.FStr
import HandS.StrMore
import HandS.Style
import HandS.ExcInit
import HandS.ExcField
import HandS.SortInts
import HandS.WordsExc
import HandS.ExcOwn
import PyProof.Rows.SeqMore
import PySem.Challenge.RW_paperkin_k08_whole_round_and_back
set_option Elab.async false
set_option linter.all false
set_option maxRecDepth 100000
set_option maxHeartbeats 4000000
/-! own ==, != with both answers; list.index, list.count over such; len, str, repr of own instances -/
namespace K8
open PySem PySem.SeqAt
open AutoSeq1 (wpAny_loadPart')
open MeetsSeq MeetsSeq2 MeetsSeq3 SeqRoads2

section
variable {prog : Program} {w : World} {A : Around} {R : Result → Shared → Prop}

/-- at each turn the list is read anew: N items, the i-th is compared with v: the answer is e i -/
def ListB (prog : Program) (w : World) (A : Around) (E : Value → Shared → Prop) (l : Addr) (v : Value) (N : Nat) (e : Nat → Bool) (I : Shared → Prop) : Prop :=
  ∀ s, I s → ∃ (items : Array Value) (n : Nat), s.heap.get? l = some { cls := .type "list", data := .seq items n } ∧ items.size = N ∧
    ∀ (i : Nat) (h1 : i < items.size), wpAny (model prog w) A.in1 (eqBool items[i] v) (fun r s' => r = e i ∧ I s') E s

theorem count_loopB (l : Addr) (v : Value) (N : Nat) (e : Nat → Bool) (I : Shared → Prop) (hl : ListB prog w A (fun e s' => R (.error e) s') l v N e I)
    (c : Nat) (fin : ∀ s, I s → R (.ok (.ret (.int c s.toks))) { s with toks := s.toks + 1 }) (k : Nat) :
    ∀ (i : Nat) (found : Int), N - i = k → i ≤ N → found + (((List.range' i (N - i)).countP e : Nat) : Int) = c → ∀ s, I s →
      wpAny (model prog w) A.in1 (Builtin.«list.count.loop» ⟨[.ref l, v, rawInt i, rawInt found], []⟩) (GQ.FinOf prog w A R) (fun e s' => R (.error e) s') s := by
  induction k with
  | zero =>
    intro i found hk hi hf s h
    obtain ⟨items, n, hl1, hs1, _⟩ := hl _ h
    have hi' : i = N := by omega
    have hR := fin s h
    obtain ⟨hp, g, d, tk, os⟩ := s
    wp_walk using wpAny_loadPart' hl1
    have hi1 : items[((i : Nat) : Int).toNat]? = none := by simp; omega
    rw [hi1]
    wp_walk
    have e0 : N - i = 0 := by omega
    rw [e0] at hf
    have e1 : found = (c : Int) := by simpa using hf
    rw [e1]
    simpa using hR
  | succ k ih =>
    intro i found hk hi hf s h
    obtain ⟨items, n, hl1, hs1, turn⟩ := hl _ h
    have hlt : i < items.size := by omega
    have ht := turn i hlt
    obtain ⟨hp, g, d, tk, os⟩ := s
    wp_walk using wpAny_loadPart' hl1
    have hi1 : items[((i : Nat) : Int).toNat]? = some items[i] := by simp [hlt]
    have hc : ((i : Int) + 1) = ((i + 1 : Nat) : Int) := by omega
    rw [hi1]
    refine wpAny_bind (wpAny_mono ht (fun r s2 h2 => ?_) fun _ _ x => x)
    obtain ⟨hr, h2⟩ := h2
    have hd : List.range' i (N - i) = i :: List.range' (i + 1) (N - (i + 1)) := by
      have e1 : N - i = (N - (i + 1)) + 1 := by omega
      rw [e1, List.range'_succ]
    rw [hd, List.countP_cons] at hf
    have hrec := ih (i + 1) (if r = true then found + 1 else found) (by omega) (by omega) (by
      rw [hr]
      cases hb : e i with
      | true =>
        rw [hb] at hf
        simp only [if_true] at hf ⊢
        omega
      | false =>
        rw [hb] at hf
        simp only [Bool.false_eq_true, if_false] at hf ⊢
        omega) s2 h2
    obtain ⟨hp2, g2, d2, tk2, os2⟩ := s2
    wp_walk
    rw [hc]
    exact ⟨plainId_quiet plain_count_loop _, codeAny_builtin entry_count_loop (by
      rw [Around.under_plainId plain_count_loop _]
      exact hrec)⟩

theorem list_countB (l : Addr) (v : Value) (N : Nat) (e : Nat → Bool) (I : Shared → Prop) (hl : ListB prog w A (fun e s' => R (.error e) s') l v N e I)
    (c : Nat) (hc : c = (List.range N).countP e) (fin : ∀ s, I s → R (.ok (.ret (.int c s.toks))) { s with toks := s.toks + 1 }) {s : Shared} (h : I s) :
    wpAny (model prog w) A.in1 (Builtin.«list.count» ⟨[.ref l, v], []⟩) (GQ.FinOf prog w A R) (fun e s' => R (.error e) s') s := by
  obtain ⟨items, n, hl1, hs1, _⟩ := hl _ h
  have hrec := count_loopB (A := A) (R := R) l v N e I hl c fin _ 0 0 rfl (Nat.zero_le _) (by
    rw [hc, List.range_eq_range', Nat.sub_zero]; omega) s h
  obtain ⟨hp, g, d, tk, os⟩ := s
  wp_walk using wpAny_loadPart' hl1
  exact ⟨plainId_quiet plain_count_loop _, codeAny_builtin entry_count_loop (by
    rw [Around.under_plainId plain_count_loop _]
    exact hrec)⟩

theorem index_loopB (l : Addr) (v : Value) (N : Nat) (e : Nat → Bool) (I : Shared → Prop) (hl : ListB prog w A (fun e s' => R (.error e) s') l v N e I)
    (upto : Int) (j : Nat) (hj : j < N) (hupto : (j : Int) < upto) (hit : e j = true)
    (fin : ∀ s, I s → R (.ok (.ret (.int j s.toks))) { s with toks := s.toks + 1 }) (k : Nat) :
    ∀ i : Nat, j - i = k → i ≤ j → (∀ m, i ≤ m → m < j → e m = false) → ∀ s, I s →
      wpAny (model prog w) A.in1 (Builtin.«list.index.loop» ⟨[.ref l, v, rawInt i, rawInt upto], []⟩) (GQ.FinOf prog w A R) (fun e s' => R (.error e) s') s := by
  induction k with
  | zero =>
    intro i hk hij hno s h
    obtain ⟨items, n, hl1, hs1, turn⟩ := hl _ h
    have hij' : i = j := by omega
    subst hij'
    have hlt : i < items.size := by omega
    have ht := turn i hlt
    obtain ⟨hp, g, d, tk, os⟩ := s
    wp_walk using wpAny_loadPart' hl1
    have hi : (if (i : Int) < upto then items[((i : Nat) : Int).toNat]? else none) = some items[i] := by simp [hupto, hlt]
    rw [hi]
    refine wpAny_bind (wpAny_mono ht (fun r s2 h2 => ?_) fun _ _ x => x)
    obtain ⟨hr, h2⟩ := h2
    rw [hit] at hr
    subst hr
    have hR := fin s2 h2
    obtain ⟨hp2, g2, d2, tk2, os2⟩ := s2
    wp_walk
    exact hR
  | succ k ih =>
    intro i hk hij hno s h
    obtain ⟨items, n, hl1, hs1, turn⟩ := hl _ h
    have hlt : i < items.size := by omega
    have hst : (i : Int) < upto := by omega
    have ht := turn i hlt
    obtain ⟨hp, g, d, tk, os⟩ := s
    wp_walk using wpAny_loadPart' hl1
    have hi : (if (i : Int) < upto then items[((i : Nat) : Int).toNat]? else none) = some items[i] := by simp [hst, hlt]
    have hc : ((i : Int) + 1) = ((i + 1 : Nat) : Int) := by push_cast; rfl
    rw [hi]
    refine wpAny_bind (wpAny_mono ht (fun r s2 h2 => ?_) fun _ _ x => x)
    obtain ⟨hr, h2⟩ := h2
    rw [hno i (Nat.le_refl _) (by omega)] at hr
    subst hr
    have hrec := ih (i + 1) (by omega) (by omega) (fun m h1 h2 => hno m (by omega) h2) s2 h2
    obtain ⟨hp2, g2, d2, tk2, os2⟩ := s2
    wp_walk
    rw [hc]
    exact ⟨plainId_quiet plain_index_loop _, codeAny_builtin entry_index_loop (by
      rw [Around.under_plainId plain_index_loop _]
      exact hrec)⟩

theorem list_indexB (l : Addr) (v : Value) (N : Nat) (e : Nat → Bool) (I : Shared → Prop) (hl : ListB prog w A (fun e s' => R (.error e) s') l v N e I)
    (j : Nat) (hj : j < N) (hsmall : (j : Int) < 2 ^ 63 - 1) (hit : e j = true) (hno : ∀ m, m < j → e m = false)
    (fin : ∀ s, I s → R (.ok (.ret (.int j s.toks))) { s with toks := s.toks + 1 }) {s : Shared} (h : I s) :
    wpAny (model prog w) A.in1 (Builtin.«list.index» ⟨[.ref l, v], []⟩) (GQ.FinOf prog w A R) (fun e s' => R (.error e) s') s := by
  obtain ⟨items, n, hl1, hs1, _⟩ := hl _ h
  have hrec := index_loopB (A := A) (R := R) l v N e I hl (2 ^ 63 - 1) j hj hsmall hit fin _ 0 rfl (Nat.zero_le _) (fun m _ h2 => hno m h2) s h
  obtain ⟨hp, g, d, tk, os⟩ := s
  wp_walk using wpAny_loadPart' hl1
  have a1 : ((fun i : Int => if i < 0 then max 0 (i + (items.size : Int)) else i) ((none : Option Int).getD 0)) = ((0 : Nat) : Int) := by simp
  have a2 : ((fun i : Int => if i < 0 then max 0 (i + (items.size : Int)) else i) ((none : Option Int).getD (2 ^ 63 - 1))) = 2 ^ 63 - 1 := by simp
  rw [a1, a2]
  exact ⟨plainId_quiet plain_index_loop _, codeAny_builtin entry_index_loop (by
    rw [Around.under_plainId plain_index_loop _]
    exact hrec)⟩
end
end K8
namespace K8
open PySem PySem.Spec PyProof.Rows L2

/-- what is said of two instances, with the answer of == -/
abbrev RB := Addr → Addr → Bool → Hp → Prop
/-- the promise of an own == -/
def spEqB (R : RB) : Sp := fun vs H Q _ => ∃ a b r, vs = [.ref a, .ref b] ∧ R a b r H ∧ ∀ H', Ext H H' → Q (.bl r) H'
/-- what the top has written of a class with an own == -/
structure EqC (K : PySem.W.Frag) (C f : Addr) : Prop where
  eq : PySem.W.findIn K (.ref C) "__eq__" = some (some (.ref f))
  fn : PySem.W.isFn K (.ref f) = true
  ne : PySem.W.findIn K (.ref C) "__ne__" = some (some (.builtin "object.__ne__"))
  ob : PySem.W.mroIn K C (.type "object") = some true

section
variable {X : Cx} {CX : CXT} {n k : Nat} {C f : Addr} {fd : FuncData} {ps : List Str} {sp : Sp} {E : XK} {pins : List (Addr × Obj)} {σ : L2.St} {H : Hp} {s : Shared} {A : Around}
/-- a def runs somewhere below the body -/
theorem run_sub {Q : VK} {us : List Value} {vs : List V} (F : FnOk X.prog X.w X.K X.mg X.base CX n f fd ps sp) (hb : Binds X.K fd ps []) (hx : Passes CX X E) (sb : Sub X n A)
    (I : Inv X pins σ H s) (r : Vals vs us) (h : sp vs H Q E) : wpAny (model X.prog X.w) A (call (.ref f) us) (EP X pins σ Q) X.xe s := by
  have e0 : Env0 X.prog X.w X.K X.mg X.base A X.stack s H := by
    have e := I.env0
    exact ⟨by rw [sb.fr]; exact e.frames, e.mod, e.bs, e.bsz, e.funs, e.frf, e.hok, e.bare⟩
  have hl := F.len _ _ _ _ h
  have hl2 : us.length = ps.length := by rw [← r.length]; exact hl
  refine wpAny_call (codeAny_mono (F.run A X.stack s H ⟨us, []⟩ us vs Q E sb.room e0 (by
    have := hb s us I.kIn (by simpa using hl2)
    simpa using this) r h) fun r s' hq => ?_)
  cases r with
  | error e => exact hx pins σ H s e s' I hq
  | ok fl =>
    cases fl with
    | ret w => exact I.after hq
    | next => exact False.elim hq
    | brk => exact False.elim hq
    | cont => exact False.elim hq

theorem vref1 (a : Addr) : Vals [V.ref a] [Value.ref a] := .cons (show RelV (V.ref a) (Value.ref a) from rfl) .nil
theorem vref2 (a b : Addr) : Vals [V.ref a, V.ref b] [Value.ref a, Value.ref b] := .cons (show RelV (V.ref a) (Value.ref a) from rfl) (vref1 b)
theorem inst_at {a dx : Addr} {fs : List (Str × V)} (I : Inv X pins σ H s) (e : H a = some (.ins C dx fs)) : ∃ od, PySem.W.InstAt s.heap a (PySem.W.instObj C dx) C (some od) := by
  obtain ⟨mA, J, _⟩ := ins_get I.hok e
  obtain ⟨od, J, _⟩ := J.look
  exact ⟨od, J⟩

theorem ifBound_B {M : Model} {K : PySem.W.Frag} {x : Addr} {ox : Obj} {od : Option Obj} {name : Str} {id : String} {args : List Value} {Q : Option Value → Shared → Prop} {E : Value → Shared → Prop} {s : Shared} (X : K.In s.heap) (I : PySem.W.InstAt s.heap x ox C od)
    (hs : PySem.W.findIn K (.ref C) name = some (some (.builtin id))) (hb : ∀ self, bindSpecial (.builtin id) self = pure (.builtin id, [self]))
    (h : wpAny M A (call (.builtin id) (.ref x :: args)) (fun v => Q (some v)) E s) : wpAny M A (callSpecialIfBound? (.ref x) name args) Q E s := by
  simp only [callSpecialIfBound?, bindSpecialIfBound?]
  refine wpAny_holding (wpAny_bind (wpAny_bind (wpAny_bind (I.type.here ((PySem.W.looks_findIn X hs).here ?_)))))
  refine wpAny_bind (wpAny_askSetting (wpAny_ite ?_))
  have fin : wpAny M A (call (.builtin id) ([.ref x] ++ args) >>= fun v => pure (some v)) Q E s := wpAny_bind (wpAny_mono h (fun v s' h' => wpAny_pure h') fun _ _ h' => h')
  split
  · exact wpAny_bind ((PySem.W.Looks.of_pure (hb _)).here (wpAny_pure (by exact fin)))
  · exact wpAny_tryCatch (wpAny_bind ((PySem.W.Looks.of_pure (hb _)).here (wpAny_pure (by exact fin))))

open Builtin in
/-- object.__ne__ over an own == -/
theorem one_K {prog : Program} {w : World} {K : PySem.W.Frag} {x y : Addr} {ox : Obj} {od : Option Obj} {Q : Value → Shared → Prop} {E : Value → Shared → Prop} {s : Shared} (hu : A.in1.units < cLine) (X : K.In s.heap) (I : PySem.W.InstAt s.heap x ox C od) (T : EqC K C f)
    (h : wpAny (model prog w) A.in1 (call (.ref f) [.ref x, .ref y]) (fun v s' => ∃ b, v = .bool b ∧ Q (.bool (!b)) s') E s) : wpAny (model prog w) A (call (.builtin "object.__ne__") [.ref x, .ref y]) Q E s := by
  refine wpAny_call (codeAny_call_builtin PySem.F.slot_object_ne.plain PySem.F.entry_object_ne (PySem.W.check_slot (i := "object.__ne__") (owner := "object") (n := "__ne__") (by decide +kernel) (by decide +kernel) (I.type.andThen (PySem.W.looks_mroIn X T.ob)) (PySem.F.args_object_ne_2 _ _) ?_))
  unfold Builtin.«object.__ne__»
  repeat (first
    | with_reducible refine wpAny_cRoomFor hu ?_
    | (refine wpAny_bind (m := callSpecialIfBound? (.ref x) (Str.ofString "__eq__") [.ref y])
        (PySem.W.ifBound_K X I T.eq T.fn (wpAny_mono h (fun r s' hr => by
          obtain ⟨b, rfl, hq⟩ := hr
          repeat (first | exact hq | exact wpAny_pure hq | exact ⟨_, rfl, hq⟩ | exact wpAny_truthy_bool hq | (refine wpAny_bind (m := truthy (.bool _)) (wpAny_truthy_bool ?_)) | wp_step)) fun _ _ e => e)))
    | wp_step)

theorem rne_K {prog : Program} {w : World} {K : PySem.W.Frag} {x y : Addr} {ox oy : Obj} {od : Option Obj} {Q : Value → Shared → Prop} {E : Value → Shared → Prop} {s : Shared} (hu : A.in1.units < cLine) (X : K.In s.heap) (I : PySem.W.InstAt s.heap x ox C od) (T : EqC K C f)
    (hy : s.heap.get? y = some oy) (hyc : oy.cls = .ref C)
    (h : wpAny (model prog w) A.in1 (call (.ref f) [.ref x, .ref y]) (fun v s' => ∃ b, v = .bool b ∧ Q (.bool (!b)) s') E s) : wpAny (model prog w) A (richCompare .NotEq (.ref x) (.ref y)) Q E s := by
  have hu0 : A.units < cLine := Nat.lt_of_le_of_lt (by show A.units ≤ A.units + 1; omega) hu
  have one : wpAny (model prog w) A (tryCompare (.ref x) "__ne__" (.ref y)) (fun r s' => ∃ b, r = some (.bool (!b)) ∧ Q (.bool (!b)) s') E s := by
    unfold tryCompare
    refine wpAny_bind (ifBound_B X I T.ne PySem.F.slot_object_ne.bind (one_K hu X I T (wpAny_mono h (fun v s' hv => ?_) fun _ _ e => e)))
    obtain ⟨b, rfl, hq⟩ := hv
    exact ⟨b, rfl, wpAny_pure ⟨b, rfl, hq⟩⟩
  unfold richCompare
  simp only [oneThing_ref]
  refine wpAny_holding (wpAny_bind (wpAny_cRoomFor hu0 ?_))
  rw [cmpInfo_NotEq]
  dsimp only
  refine wpAny_bind (I.type.here (wpAny_bind (wpAny_typeOf_ref hy ?_)))
  rw [hyc]
  rw [show (Value.ref C != Value.ref C) = false from by simp]
  simp only [Bool.false_eq_true, if_false]
  refine wpAny_bind (wpAny_pure ?_)
  simp only [Bool.false_eq_true, if_false]
  refine wpAny_bind (wpAny_mono one (fun r s' z => ?_) fun _ _ e => e)
  obtain ⟨b, rfl, hq⟩ := z
  exact wpAny_pure hq

/-- == of two instances, by the own == -/
theorem rcB {R : RB} {a b dx dy : Addr} {fs gs : List (Str × V)} {r : Bool} (F : FnOk X.prog X.w X.K X.mg X.base CX n f fd ps (spEqB R)) (T : EqC X.K C f) (hb : Binds X.K fd ps []) (hx : Passes CX X E) (sb : Sub X n A)
    (I : Inv X pins σ H s) (ha : H a = some (.ins C dx fs)) (hb' : H b = some (.ins C dy gs)) (hr : R a b r H) :
    wpAny (model X.prog X.w) A (richCompare .Eq (.ref a) (.ref b)) (fun v s' => v = .bool r ∧ ∃ H', Inv X pins σ H' s' ∧ Ext H H') X.xe s := by
  obtain ⟨od, J⟩ := inst_at I ha
  obtain ⟨od', J'⟩ := inst_at I hb'
  obtain ⟨m, hF⟩ := I.fr
  refine PySem.W.cmp_K (op := .Eq) (tb := .ref C) sb.room.units0 hF I.ok.mod.kin J J'.type (by simp [PySem.W.notFirst]) T.eq T.fn ?_
  have hsp : spEqB R [.ref a, .ref b] H (fun v H' => v = .bl r ∧ Ext H H') E := ⟨a, b, r, rfl, hr, fun H' e => ⟨rfl, e⟩⟩
  refine wpAny_mono (run_sub F hb hx sb I (vref2 a b) hsp) (fun v s' hv => ?_) fun _ _ e => e
  obtain ⟨v1, H', I', rv, ev, e⟩ := hv
  subst ev
  cases rv
  exact ⟨rfl, H', I', e⟩
theorem rneB {R : RB} {a b dx dy : Addr} {fs gs : List (Str × V)} {r : Bool} (F : FnOk X.prog X.w X.K X.mg X.base CX n f fd ps (spEqB R)) (T : EqC X.K C f) (hb : Binds X.K fd ps []) (hx : Passes CX X E) (sb : Sub X (n + 1) A)
    (I : Inv X pins σ H s) (ha : H a = some (.ins C dx fs)) (hb' : H b = some (.ins C dy gs)) (hr : R a b r H) :
    wpAny (model X.prog X.w) A (richCompare .NotEq (.ref a) (.ref b)) (fun v s' => v = .bool (!r) ∧ ∃ H', Inv X pins σ H' s' ∧ Ext H H') X.xe s := by
  obtain ⟨od, J⟩ := inst_at I ha
  obtain ⟨od', J'⟩ := inst_at I hb'
  refine rne_K sb.in1.room.units0 I.kIn J T J'.at_ J'.cls ?_
  have hsp : spEqB R [.ref a, .ref b] H (fun v H' => v = .bl r ∧ Ext H H') E := ⟨a, b, r, rfl, hr, fun H' e => ⟨rfl, e⟩⟩
  refine wpAny_mono (run_sub F hb hx sb.in1 I (vref2 a b) hsp) (fun v s' hv => ?_) fun _ _ e => e
  obtain ⟨v1, H', I', rv, ev, e⟩ := hv
  subst ev
  cases rv
  exact ⟨r, rfl, rfl, H', I', e⟩
/-- x == y, x != y -/
def rEqB (C : Addr) (R : RB) : R2 := fun x y H Q => ∃ a b dx dy fs gs r, x = .ref a ∧ y = .ref b ∧ H a = some (.ins C dx fs) ∧ H b = some (.ins C dy gs) ∧ R a b r H ∧ ∀ H', Ext H H' → Q (.bl r) H'
def rNeB (C : Addr) (R : RB) : R2 := fun x y H Q => ∃ a b dx dy fs gs r, x = .ref a ∧ y = .ref b ∧ H a = some (.ins C dx fs) ∧ H b = some (.ins C dy gs) ∧ R a b r H ∧ ∀ H', Ext H H' → Q (.bl (!r)) H'
theorem op_eqB {R : RB} (F : FnOk X.prog X.w X.K X.mg X.base CX n f fd ps (spEqB R)) (T : EqC X.K C f) (hb : Binds X.K fd ps []) (hx : Passes CX X E) (hr : Room n X.A) : OpR X (compareOp .Eq) (rEqB C R) := by
  intro pins s σ H x y v u Q I rx ry hq
  obtain ⟨a, b, dx, dy, fs, gs, r, rfl, rfl, ha, hb', h, q⟩ := hq
  cases rx
  cases ry
  show wpAny (model X.prog X.w) X.A (richCompare .Eq (.ref a) (.ref b)) (EP X pins σ Q) X.xe s
  refine wpAny_mono (rcB F T hb hx ⟨hr, rfl⟩ I ha hb' h) (fun v s' z => ?_) fun _ _ x => x
  obtain ⟨rfl, H', I', e⟩ := z
  exact ⟨.bl r, H', I', rfl, q H' e⟩
theorem op_neB {R : RB} (F : FnOk X.prog X.w X.K X.mg X.base CX n f fd ps (spEqB R)) (T : EqC X.K C f) (hb : Binds X.K fd ps []) (hx : Passes CX X E) (hr : Room (n + 1) X.A) : OpR X (compareOp .NotEq) (rNeB C R) := by
  intro pins s σ H x y v u Q I rx ry hq
  obtain ⟨a, b, dx, dy, fs, gs, r, rfl, rfl, ha, hb', h, q⟩ := hq
  cases rx
  cases ry
  show wpAny (model X.prog X.w) X.A (richCompare .NotEq (.ref a) (.ref b)) (EP X pins σ Q) X.xe s
  refine wpAny_mono (rneB F T hb hx ⟨hr, rfl⟩ I ha hb' h) (fun v s' z => ?_) fun _ _ x => x
  obtain ⟨rfl, H', I', e⟩ := z
  exact ⟨.bl (!r), H', I', rfl, q H' e⟩

/-- == within a list's methods: the same object is equal to itself -/
theorem eqBoolB {R : RB} {a b dx dy : Addr} {fs gs : List (Str × V)} {r : Bool} (F : FnOk X.prog X.w X.K X.mg X.base CX n f fd ps (spEqB R)) (T : EqC X.K C f) (hb : Binds X.K fd ps []) (hx : Passes CX X E) (sb : Sub X n A)
    (I : Inv X pins σ H s) (ha : H a = some (.ins C dx fs)) (hb' : H b = some (.ins C dy gs)) (hr : R a b r H) (hid : a = b → r = true) :
    wpAny (model X.prog X.w) A (eqBool (.ref a) (.ref b)) (fun v s' => v = r ∧ ∃ H', Inv X pins σ H' s' ∧ Ext H H') X.xe s := by
  by_cases hab : a = b
  · have e := hid hab
    subst hab
    subst e
    exact SeqAt.EqAt.same (A := A) (s := s) (.ref a) X.prog X.w X.xe _ ⟨rfl, H, I, Ext.rfl'⟩
  · refine GQ.eqBool_refG hab (wpAny_mono (rcB F T hb hx sb I ha hb' hr) (fun v s' q => ?_) fun _ _ x => x)
    obtain ⟨hr', q⟩ := q
    exact ⟨r, hr', rfl, q⟩

theorem getD_of {α : Type} {l : List α} {i : Nat} {x d : α} (h : l[i]? = some x) : l.getD i d = x := by
  rw [List.getD_eq_getElem?_getD, h]; rfl
theorem countP_range {α : Type} (p : α → Bool) (d : α) (l : List α) : (List.range l.length).countP (fun i => p (l.getD i d)) = l.countP p := by
  induction l with
  | nil => rfl
  | cons x l ih =>
    rw [List.length_cons, List.range_succ_eq_map, List.countP_cons, List.countP_map, List.countP_cons]
    have e : ((fun i => p ((x :: l).getD i d)) ∘ Nat.succ) = fun i => p (l.getD i d) := by
      funext i
      simp [Function.comp, List.getD_eq_getElem?_getD]
    rw [e, ih]
    simp [List.getD_eq_getElem?_getD]

theorem vals_ref_at {ys : List Addr} {its : List Value} (r : Vals (ys.map V.ref) its) : its = ys.map Value.ref := by
  induction ys generalizing its with
  | nil => cases r; rfl
  | cons y ys ih =>
    cases r with
    | cons q t =>
      have q' : _ = Value.ref y := q
      rw [q', ih t]; rfl

/-- the list at l holds instances, the i-th compared with y answers p of it -/
structure InsB (C : Addr) (R : RB) (p : Addr → Bool) (y : Addr) (ys : List Addr) (H : Hp) : Prop where
  me : ∃ dy gs, H y = some (.ins C dy gs)
  it : ∀ z ∈ ys, (∃ dz fz, H z = some (.ins C dz fz)) ∧ R z y (p z) H ∧ (z = y → p z = true)
def MonB (R : RB) : Prop := ∀ a b r H H', Ext H H' → R a b r H → R a b r H'
theorem InsB.ext {R : RB} {p : Addr → Bool} {y : Addr} {ys : List Addr} {H H' : Hp} (m : MonB R) (h : InsB C R p y ys H) (e : Ext H H') : InsB C R p y ys H' :=
  ⟨let ⟨d, g, q⟩ := h.me; ⟨d, g, e _ _ q⟩, fun z hz => let ⟨⟨d, g, q⟩, r, i⟩ := h.it z hz; ⟨⟨d, g, e _ _ q⟩, m _ _ _ _ _ e r, i⟩⟩

theorem listB {R : RB} {p : Addr → Bool} {l y : Addr} {ys : List Addr} (m : MonB R) (F : FnOk X.prog X.w X.K X.mg X.base CX n f fd ps (spEqB R)) (T : EqC X.K C f) (hb : Binds X.K fd ps []) (hx : Passes CX X E) (sb : Sub X (n + 1) A)
    (hl : H l = some (.lst (ys.map V.ref))) (hi : InsB C R p y ys H) : ListB X.prog X.w A X.xe l (.ref y) ys.length (fun i => p (ys.getD i 0)) (LoopI X pins σ H) := by
  intro s' q
  obtain ⟨H1, I1, e1⟩ := id q
  obtain ⟨z, its, k, r, e⟩ := I1.hok l _ (e1 _ _ hl)
  have hv := vals_ref_at r
  subst hv
  refine ⟨(ys.map Value.ref).toArray, k, e, by simp, fun i h1 => ?_⟩
  have h2 : i < ys.length := by simpa using h1
  have ez : (ys.map Value.ref).toArray[i] = Value.ref ys[i] := by simp
  rw [ez]
  have hg : ys.getD i 0 = ys[i] := getD_of (by simp [h2])
  have hg2 : (fun i => p (ys.getD i 0)) i = p ys[i] := congrArg p hg
  rw [hg2]
  have hi1 := hi.ext m e1
  obtain ⟨dy, gs, hy⟩ := hi1.me
  obtain ⟨⟨dz, fz, hz⟩, rr, hid⟩ := hi1.it ys[i] (List.getElem_mem h2)
  refine wpAny_mono (eqBoolB F T hb hx sb.in1 I1 hz hy rr hid) (fun r s2 q2 => ?_) fun _ _ x => x
  obtain ⟨hr, H2, I2, e2⟩ := q2
  exact ⟨hr, H2, I2, e1.trans e2⟩

/-- l.count(y) -/
def rCountB (C : Addr) (R : RB) : V → List V → Hp → VK → Prop := fun x xs H Q => ∃ (l y : Addr) (ys : List Addr) (p : Addr → Bool), x = .ref l ∧ xs = [.ref y] ∧ H l = some (.lst (ys.map V.ref)) ∧ InsB C R p y ys H ∧
  ∀ H', Ext H H' → Q (.int (ys.countP p : Nat)) H'
theorem mt_countB {R : RB} (m : MonB R) (F : FnOk X.prog X.w X.K X.mg X.base CX n f fd ps (spEqB R)) (T : EqC X.K C f) (hb : Binds X.K fd ps []) (hx : Passes CX X E) (hr : Room (n + 1) X.A) : MtR X "list.count" (rCountB C R) := by
  intro pins s σ H x xs v us Q I rx rs h
  obtain ⟨l, y, ys, p, rfl, rfl, hl, hi, q⟩ := h
  cases rx
  obtain rfl := Vals.ref1 rs
  obtain ⟨z, its, k, r, e⟩ := I.hok l _ hl
  refine GQ.call_here PySem.F.slot_list_count ⟨_, e, rfl⟩ PySem.F.entry_list_count (PySem.F.args_list_count_2 _ _) ?_
  refine list_countB (R := wants (EP X pins σ Q) X.xe) l (.ref y) ys.length (fun i => p (ys.getD i 0)) (LoopI X pins σ H) (listB m F T hb hx ⟨hr, rfl⟩ hl hi) (ys.countP p) (countP_range p 0 ys).symm (fun s' q' => ?_) ⟨H, I, Ext.rfl'⟩
  obtain ⟨H1, I1, e1⟩ := q'
  exact ⟨.int (ys.countP p : Nat), H1, I1.tok _, ⟨_, rfl⟩, q H1 e1⟩
/-- l.index(y), there -/
def rIndexB (C : Addr) (R : RB) : V → List V → Hp → VK → Prop := fun x xs H Q => ∃ (l y : Addr) (ys : List Addr) (p : Addr → Bool) (j : Nat) (z : Addr), x = .ref l ∧ xs = [.ref y] ∧ H l = some (.lst (ys.map V.ref)) ∧ InsB C R p y ys H ∧
  ys[j]? = some z ∧ p z = true ∧ (∀ m z', m < j → ys[m]? = some z' → p z' = false) ∧ ∀ H', Ext H H' → Q (.int (j : Nat)) H'
theorem mt_indexB {R : RB} (m : MonB R) (F : FnOk X.prog X.w X.K X.mg X.base CX n f fd ps (spEqB R)) (T : EqC X.K C f) (hb : Binds X.K fd ps []) (hx : Passes CX X E) (hr : Room (n + 1) X.A) : MtR X "list.index" (rIndexB C R) := by
  intro pins s σ H x xs v us Q I rx rs h
  obtain ⟨l, y, ys, p, j, zj, rfl, rfl, hl, hi, hj, hp, hno, q⟩ := h
  cases rx
  obtain rfl := Vals.ref1 rs
  obtain ⟨z, its, k, r, e⟩ := I.hok l _ hl
  have hjl : j < ys.length := (List.getElem?_eq_some_iff.mp hj).1
  refine GQ.call_here PySem.F.slot_list_index ⟨_, e, rfl⟩ PySem.F.entry_list_index (PySem.F.args_list_index_2 _ _) ?_
  refine list_indexB (R := wants (EP X pins σ Q) X.xe) l (.ref y) ys.length (fun i => p (ys.getD i 0)) (LoopI X pins σ H) (listB m F T hb hx ⟨hr, rfl⟩ hl hi) j hjl ?_ ?_ ?_ (fun s' q' => ?_) ⟨H, I, Ext.rfl'⟩
  · rw [List.length_map, sizeLine_eq] at z; omega
  · rw [getD_of hj]; exact hp
  · intro m hm
    have h1 : m < ys.length := by omega
    have h2 : ys[m]? = some ys[m] := by simp [h1]
    rw [getD_of h2]
    exact hno m _ hm h2
  · obtain ⟨H1, I1, e1⟩ := q'
    exact ⟨.int (j : Nat), H1, I1.tok _, ⟨_, rfl⟩, q H1 e1⟩
/-- xs != ys of two lists that hold the same objects -/
theorem op_neSame (hr : Room n X.A) : OpR X (compareOp .NotEq) (fun x y H Q => ∃ (a b : Addr) (zs : List Addr), x = .ref a ∧ y = .ref b ∧ H a = some (.lst (zs.map V.ref)) ∧ H b = some (.lst (zs.map V.ref)) ∧ Q (.bl false) H) := by
  intro pins s σ H x y v u Q I rx ry hq
  obtain ⟨a, b, zs, rfl, rfl, ha, hb, q⟩ := hq
  cases rx
  cases ry
  obtain ⟨z, its, k, r, e⟩ := I.hok a _ ha
  obtain ⟨z2, its2, k2, r2, e2⟩ := I.hok b _ hb
  have h1 := vals_ref_at r
  have h2 := vals_ref_at r2
  subst h1 h2
  show wpAny (model X.prog X.w) X.A (richCompare .NotEq (.ref a) (.ref b)) (EP X pins σ Q) X.xe s
  have key := SeqAt.RcNeAt.lists (A := X.A) (s := s) (l := a) (b := b) (items := (zs.map Value.ref).toArray) (items2 := (zs.map Value.ref).toArray) (e := fun _ => true) ⟨_, e, rfl, _, rfl⟩ ⟨_, e2, rfl, _, rfl⟩ rfl hr.units0
    (fun j h1 h2 => SeqAt.EqAt.same _)
  refine key X.prog X.w X.xe _ ?_
  have ea : (!(List.range (zs.map Value.ref).toArray.size).all fun _ => true) = false := by simp
  rw [ea]
  exact ⟨.bl false, H, I, rfl, q⟩

/-! ### len, repr, str of an own instance -/
theorem call_lenI {m : Str} (F : FnOk X.prog X.w X.K X.mg X.base CX n f fd ps sp) (hs : PySem.W.findIn X.K (.ref C) "__len__" = some (some (.ref f))) (hf : PySem.W.isFn X.K (.ref f) = true) (hb : Binds X.K fd ps []) (hx : Passes CX X E) (hr : Room (n + 1) X.A) :
    CallR X (.builtin "len") (fun xs H Q => ∃ a dx fs, xs = [.ref a] ∧ H a = some (.ins C dx fs) ∧ sp [.ref a] H (fun v H' => ∃ i : Int, v = .int i ∧ (0 ≤ i ∧ i < 2 ^ 63) ∧ Q (.int i) H') E) := by
  intro pins s σ H xs us Q I r h
  obtain ⟨a, dx, fs, rfl, ha, hsp⟩ := h
  obtain rfl := Vals.ref1 r
  obtain ⟨od, J⟩ := inst_at I ha
  obtain ⟨m, hF⟩ := I.fr
  refine PySem.W.len_K hF I.ok.mod.kin J hs hf ?_
  refine wpAny_mono (run_sub F hb hx (Sub.in1 ⟨hr, rfl⟩) I (vref1 a) hsp) (fun v s' hv => ?_) fun _ _ e => e
  obtain ⟨v1, H', I', rv, i, ev, hi, q⟩ := hv
  subst ev
  obtain ⟨t, rfl⟩ := rv
  exact ⟨hi, .int i, H', I'.tok _, ⟨_, rfl⟩, q⟩
theorem call_reprI (F : FnOk X.prog X.w X.K X.mg X.base CX n f fd ps sp) (hs : PySem.W.findIn X.K (.ref C) "__repr__" = some (some (.ref f))) (hf : PySem.W.isFn X.K (.ref f) = true) (hb : Binds X.K fd ps []) (hx : Passes CX X E) (hr : Room (n + 1) X.A) :
    CallR X (.builtin "repr") (fun xs H Q => ∃ a dx fs, xs = [.ref a] ∧ H a = some (.ins C dx fs) ∧ sp [.ref a] H (fun v H' => ∃ y : Str, v = .str y ∧ Q (.str y) H') E) := by
  intro pins s σ H xs us Q I r h
  obtain ⟨a, dx, fs, rfl, ha, hsp⟩ := h
  obtain rfl := Vals.ref1 r
  obtain ⟨od, J⟩ := inst_at I ha
  obtain ⟨m, hF⟩ := I.fr
  have sb : Sub X n X.A.in1 := Sub.in1 ⟨hr, rfl⟩
  refine PySem.W.repr_K sb.room.units0 hF I.ok.mod.kin J hs hf ?_
  refine wpAny_mono (run_sub F hb hx sb I (vref1 a) hsp) (fun v s' hv => ?_) fun _ _ e => e
  obtain ⟨v1, H', I', rv, y, ev, q⟩ := hv
  subst ev
  obtain ⟨t, rfl⟩ := rv
  exact ⟨.str y, H', I', ⟨_, rfl⟩, q⟩
theorem call_strI (F : FnOk X.prog X.w X.K X.mg X.base CX n f fd ps sp) (hs : PySem.W.findIn X.K (.ref C) "__str__" = some (some (.ref f))) (hf : PySem.W.isFn X.K (.ref f) = true) (hb : Binds X.K fd ps []) (hx : Passes CX X E) (hr : Room (n + 2) X.A) :
    CallR X (.type "str") (fun xs H Q => ∃ a dx fs, xs = [.ref a] ∧ H a = some (.ins C dx fs) ∧ sp [.ref a] H (fun v H' => ∃ y : Str, v = .str y ∧ Q (.str y) H') E) := by
  intro pins s σ H xs us Q I r h
  obtain ⟨a, dx, fs, rfl, ha, hsp⟩ := h
  obtain rfl := Vals.ref1 r
  obtain ⟨od, J⟩ := inst_at I ha
  have sb0 : Sub X (n + 2) X.A := ⟨hr, rfl⟩
  have sb : Sub X n X.A.in1.in1 := sb0.in1.in1
  refine PySem.W.kso_call sb.room.units0 I.kIn J hs hf ?_
  refine wpAny_mono (run_sub F hb hx sb I (vref1 a) hsp) (fun v s' hv => ?_) fun _ _ e => e
  obtain ⟨v1, H', I', rv, y, ev, q⟩ := hv
  subst ev
  obtain ⟨t, rfl⟩ := rv
  exact ⟨.str y, H', I', ⟨_, rfl⟩, q⟩
end
end K8
namespace K8
open PySem PySem.Spec PyProof.Rows L2 LamX

/-! ### sorted(xs, key=lambda one: (one.n1, one.n2, one.n3)) of instances -/
abbrev K3 := Int × Str × Str
/-- the key as data -/
def kd (k : K3) : PyData := .tuple [.int k.1, .str k.2.1, .str k.2.2]
theorem alike_kd (j k : K3) : PySem.W.alike (kd j) (kd k) = true := by
  simp [kd, PySem.W.alike, PySem.W.alikeAll]
theorem allAlike_kd {β : Type} (k : β → K3) (bs : List β) : PySem.W.AllAlike (bs.map fun b => kd (k b)) := by
  intro d hd d' hd'
  obtain ⟨b, _, rfl⟩ := List.mem_map.mp hd
  obtain ⟨b', _, rfl⟩ := List.mem_map.mp hd'
  exact alike_kd _ _
theorem sortable_kd {β : Type} (k : β → K3) (bs : List β) : PySem.W.Sortable (bs.map fun b => kd (k b)) := by
  refine .inl fun d hd => ?_
  obtain ⟨b, _, rfl⟩ := List.mem_map.mp hd
  exact ⟨_, _, rfl⟩
theorem depth_kd (k : K3) : (kd k).depth ≤ 8 := by
  simp [kd, PyData.depth, PyData.depthAll]
/-- what the walk asks of the class -/
structure Fld3 (K : PySem.W.Frag) (C : Addr) (n1 n2 n3 : Str) : Prop where
  cl : Cls K C
  a1 : NoAttr K C n1
  a2 : NoAttr K C n2
  a3 : NoAttr K C n3
structure Has3 (C : Addr) (n1 n2 n3 : Str) (H : Hp) (y : Addr) (k : K3) : Prop where
  ex : ∃ dx fs, H y = some (.ins C dx fs) ∧ fs.lookup n1 = some (.int k.1) ∧ fs.lookup n2 = some (.str k.2.1) ∧ fs.lookup n3 = some (.str k.2.2)
/-- the lambda's text: (x.n1, x.n2, x.n3) -/
def lamB (x n1 n2 n3 : Str) (j : Nat) (q1 q2 q3 q4 q5 q6 q7 : Pos) : Expr := .Tuple [.Attribute (.Name x q1) n1 q2, .Attribute (.Name x q3) n2 q4, .Attribute (.Name x q5) n3 q6] j q7
section
variable {X : Cx} {pins : List (Addr × Obj)} {σ : L2.St} {H : Hp} {s : Shared} {A : Around} {E : Value → Shared → Prop} {C y : Addr} {n1 n2 n3 x f : Str}
/-- one field read, the state told -/
theorem fld_at {a dx : Addr} {fs : List (Str × V)} {v : V} {b : Bool} {Q : Value → Shared → Prop} (I : Inv X pins σ H s) (e : H a = some (.ins C dx fs)) (c : Cls X.K C) (n : NoAttr X.K C f) (l : fs.lookup f = some v)
    (h : ∀ u, L2.RelV v u → Q u { s with toks := s.toks + 1 }) : wpAny (model X.prog X.w) A (getAttr (.ref a) f b) Q E s := by
  obtain ⟨mA, O, r, _, _, _⟩ := ins_get I.hok e
  obtain ⟨u, hu, ru⟩ := RelO.some_of (v := v) (o := mA f) (by rw [← l]; exact r f)
  exact get_map I.kIn O (c.get f) c.hd n hu (handed_of ru) (h u ru)
theorem lam_body {env : Env} {k : K3} {m : Str → Option Value} {j : Nat} {q1 q2 q3 q4 q5 q6 q7 : Pos} {Q : Value → Shared → Prop} (I : Inv X pins σ H s) (F3 : Fld3 X.K C n1 n2 n3) (hy : Has3 C n1 n2 n3 H y k)
    (hk : env.scope.kind = .function) (hl : env.kindOf x = some .local) (hn : s.heap.Ns env.locals m) (hm : m x = some (.ref y)) (hd : (x == ("__debug__" : Str)) = false)
    (hb : ∀ p f, attributeBase (.Name x p) f env (eval (.Name x p) env) = eval (.Name x p) env)
    (hs1 : starEach [.Attribute (.Name x q1) n1 q2, .Attribute (.Name x q3) n2 q4, .Attribute (.Name x q5) n3 q6] env = [(false, eval (.Attribute (.Name x q1) n1 q2) env), (false, eval (.Attribute (.Name x q3) n2 q4) env), (false, eval (.Attribute (.Name x q5) n3 q6) env)])
    (h : ∀ v h' tk, (∀ b o, s.heap.get? b = some o → h'.get? b = some o) → Reads h' v (kd k) [] → Q v { s with heap := h', toks := tk }) : wpAny (model X.prog X.w) A (eval (lamB x n1 n2 n3 j q1 q2 q3 q4 q5 q6 q7) env) Q E s := by
  obtain ⟨dx, fs, e, l1, l2, l3⟩ := hy.ex
  unfold lamB
  refine wpAny_Tuple_spliced ?_
  rw [hs1]
  refine Calls.spliced_cons (attr_of (hb _ _) (wpAny_Name (wpAny_loadName_local hk hl hn hm ?_) hd))
  refine fld_at I e F3.cl F3.a1 l1 fun u1 r1 => ?_
  refine Calls.spliced_cons (attr_of (hb _ _) (wpAny_Name (wpAny_loadName_local hk hl hn hm ?_) hd))
  refine fld_at (I.tok _) e F3.cl F3.a2 l2 fun u2 r2 => ?_
  refine Calls.spliced_cons (attr_of (hb _ _) (wpAny_Name (wpAny_loadName_local hk hl hn hm ?_) hd))
  refine fld_at ((I.tok _).tok _) e F3.cl F3.a3 l3 fun u3 r3 => ?_
  refine Calls.spliced_nil ⟨by show 3 ≤ sizeLine; decide, ?_⟩
  obtain ⟨t1, rfl⟩ := r1
  obtain ⟨t2, rfl⟩ := r2
  obtain ⟨t3, rfl⟩ := r3
  refine h _ _ _ (fun b o e => Heap.get?_push_of_some _ e) ?_
  refine .tuple (Heap.get?_push_size _ rfl) rfl rfl ?_
  exact .cons (as := []) (.int _ _) (.cons (as := []) (.str _ _) (.cons (as := []) (.str _ _) .nil))
end

/-- the lambda's scope: one parameter, no captured name -/
structure LamP (x : Str) (params : Arguments) (scope : Scope) : Prop where
  kind : scope.kind = .function
  co : scope.isCoroutine = false
  gen : scope.isGenerator = false
  own : ∀ z ∈ scope.names, z.2 ≠ .cell
  free : ∀ z ∈ scope.names, z.2 ≠ .free
  par : scope.names.lookup x = some .local
  bind : ∀ (q : Str) (cl : List (Str × Addr)) (body : Expr) (pm cv ctv u : Value), bindArgs (PySem.W.kla_fn "<lambda>" q params body scope cl pm cv ctv) ⟨[u], []⟩ = pure [(x, u)]

/-- sorted(e, key=lambda x: (x.n1, x.n2, x.n3)) -/
def tSortL (K : PySem.W.Frag) (T : List (Addr × Str)) (C : Addr) (n1 n2 n3 : Str) (te : TE) : TE := fun σ H Q => te σ H fun v H1 => Tabs T H1 ∧ ∃ (l : Addr) (ys : List Addr) (k : Addr → K3), v = .ref l ∧ SqL K H1 l (ys.map V.ref) ∧
  (∀ y ∈ ys, Has3 C n1 n2 n3 H1 y (k y)) ∧ ∀ p H2, ExtN H1 H2 → Tabs T H2 → H2 p = some (.lst ((ys.mergeSort (PySem.W.dataLe false fun y => kd (k y))).map V.ref)) → Q (.ref p) H2

theorem each_refs {ys : List Addr} {out : List Value} (e : PySem.W.EachIs (fun v y => v = Value.ref y) out ys) : out = ys.map Value.ref := by
  induction e with
  | nil => rfl
  | cons h _ ih => rw [h, ih]; rfl
theorem refs_each (ys : List Addr) : PySem.W.EachIs (fun v y => v = Value.ref y) (ys.map Value.ref) ys := by
  induction ys with
  | nil => exact .nil
  | cons y ys ih => exact .cons rfl ih
theorem vals_refs2 (ys : List Addr) : Vals (ys.map V.ref) (ys.map Value.ref) := by
  induction ys with
  | nil => exact .nil
  | cons y ys ih => exact .cons (show L2.RelV (V.ref y) (Value.ref y) from rfl) ih

section
variable {X : Cx} {C : Addr} {n1 n2 n3 x : Str}
theorem Inv.list_refs {pins : List (Addr × Obj)} {σ : L2.St} {H : Hp} {s : Shared} {l : Addr} {ys : List Addr} (I : Inv X pins σ H s) (h : SqL X.K H l (ys.map V.ref)) : PlainL s.heap l (ys.map Value.ref).toArray ∧ ys.length ≤ sizeLine := by
  obtain ⟨its, r, p, z⟩ := I.list h
  have e := vals_ref_at r
  subst e
  exact ⟨p, by simpa using z⟩
theorem pe_sortL {T : List (Addr × Str)} {c P : Addr} {k0 : Nat} {e : Expr} {te : TE} {params : Arguments} {scope : Scope} {j : Nat} {q1 q2 q3 q4 q5 q6 q7 p lpos kpos pos : Pos}
    (hg : Gl X "sorted") (hmS : X.mg "sorted" = none) (he : PE X e te) (TB : TabB X.base X.mg c P) (hcode : X.env.code = .ref c) (hmT : (P, X.env.qual ++ "<lambda>") ∈ T) (hu : ∀ p ∈ T, p.1 = P → p.2 = X.env.qual ++ "<lambda>") (hr : Room (k0 + 3) X.A)
    (L : LamP x params scope) (F3 : Fld3 X.K C n1 n2 n3) (hdef : defaultsOf params X.env = ([], [])) (hd : (x == ("__debug__" : Str)) = false := by decide)
    (hb : ∀ (env : Env) p f, env.scope = scope → attributeBase (.Name x p) f env (eval (.Name x p) env) = eval (.Name x p) env)
    (hs1 : ∀ env : Env, starEach [.Attribute (.Name x q1) n1 q2, .Attribute (.Name x q3) n2 q4, .Attribute (.Name x q5) n3 q6] env = [(false, eval (.Attribute (.Name x q1) n1 q2) env), (false, eval (.Attribute (.Name x q3) n2 q4) env), (false, eval (.Attribute (.Name x q5) n3 q6) env)])
    (hse : starEach [e] X.env = [(false, eval e X.env)] := by rfl) :
    PE X (.Call (.Name "sorted" p) [e] [⟨some "key", .Lambda params (lamB x n1 n2 n3 j q1 q2 q3 q4 q5 q6 q7) scope lpos, kpos⟩] pos) (tSortL X.K T C n1 n2 n3 te) := by
  refine ⟨fun pins s σ H Q I h => ?_⟩
  refine wpAny_Call_Name_kw (ld_blt (u := .builtin "sorted") I hg hmS (by decide +kernel) ?_)
  refine PyProof.Rows.callWith_kw ?_ (by rw [hse]; rfl) (by rw [hse]; rfl) rfl rfl
  rw [hse]
  refine Calls.spliced_cons (thn (he.run pins s σ H _ I h) fun v s1 ⟨xv, H1, I1, r1, hT, l, ys, k, ev, hL, h3, q⟩ => ?_)
  subst ev
  obtain rfl : v = Value.ref l := r1
  refine Calls.spliced_nil ?_
  show wpAny _ _ (evalAll [(do let v ← eval (.Lambda params (lamB x n1 n2 n3 j q1 q2 q3 q4 q5 q6 q7) scope lpos) X.env; standAt pos; pure v)]) _ _ s1
  refine wpAny_evalAll_cons (wpAny_bind (lam_make2 I1 TB hcode hmT hu hT hdef (fun z hz ez => absurd ez (L.free z hz)) fun f c' pm ctv H2 s2 I2 eN T2 hf hfn hfr hco => ?_))
  refine wpAny_bind (wpAny_standAt (wpAny_pure (wpAny_evalAll_nil ?_)))
  show wpAny _ _ (call (.builtin "sorted") [.ref l] [(Str.ofString "key", .ref f)]) _ _ s2
  have hL2 : SqL X.K H2 l (ys.map V.ref) := by
    rcases hL with (hL | ⟨o, hL⟩) | hL
    · exact .inl (.inl (eN _ _ hL fun ps z => by cases z))
    · exact .inl (.inr ⟨o, eN _ _ hL fun ps z => by cases z⟩)
    · exact .inr hL
  have h3' : ∀ y ∈ ys, Has3 C n1 n2 n3 H2 y (k y) := fun y hy => by
    obtain ⟨dx, fs, e1, l1, l2, l3⟩ := (h3 y hy).ex
    exact ⟨dx, fs, eN _ _ e1 fun ps z => (by cases z), l1, l2, l3⟩
  obtain ⟨hp, hz⟩ := Inv.list_refs I2 hL2
  obtain ⟨⟨oc, vs, t, hoc, hdc, hvc⟩, _, _⟩ := I2.hok c' _ hco
  have hun := hr.units
  refine PySem.W.sorted_key_data (b := false) (β := Addr) (vs := ys.map Value.ref) (bs := ys) (R := fun v y => v = Value.ref y) (fun y => kd (k y)) hp.isList (refs_each ys) (allAlike_kd k ys) (sortable_kd k ys) hz
    (fun y _ => by have := depth_kd (k y); omega) (PyProof.Rows.ksk_s1 _ _) (fun _ => PyProof.Rows.ksk_l1 _ _) (fun a => PyProof.Rows.ksk_t1 f a) (fun v y hv hy g tk kp => ?_) fun out cc h' tk kp hnew hob hlen each => ?_
  · subst hv
    have J0 : Inv X pins σ H2 { s2 with heap := g, toks := tk } := I2.kept kp
    have hr2 : Room (k0 + 1) X.A.in1.in1 := (hr.in1).in1
    have of1 := kp _ _ hf
    refine wpAny_call (PySem.W.kla_callFunE (s := { s2 with heap := g, toks := tk }) hr2.depth of1 rfl L.co L.gen rfl ⟨c', oc, vs, t, rfl, kp _ _ hoc, hdc, hvc⟩ ?_)
    rw [L.bind]
    refine wpAny_pure (wpAny_newFunctionEnv L.own (fun z hz => ?_) (fun h₁ hns hsb => ⟨J0.nolimit.fresh _ hsb, ?_⟩) L.kind)
    · have e : z = (x, Value.ref y) := by simpa using hz
      rw [e]
      exact L.par
    · show codeAny _ _ (.expr (lamB x n1 n2 n3 j q1 q2 q3 q4 q5 q6 q7) (PySem.W.envX (X.env.qual ++ "<lambda>") scope g.objs.size f (.ref c') (cloFrom X.env.cells scope.names []))) _ _
      have kp1 : ∀ b o, g.get? b = some o → h₁.get? b = some o := fun b o e => hsb.extBut b o (Nat.ne_of_lt (Heap.lt_size e)) (Heap.get?_push_of_some _ e)
      have J1 : Inv X pins σ H2 { s2 with heap := h₁, toks := tk + 1 } := J0.kept (t' := tk + 1) kp1
      refine PySem.W.kla_codeExpr ?_
      refine lam_body (s := { s2 with heap := h₁, toks := tk + 1 }) J1 F3 (h3' y hy) L.kind (by exact L.par) hns (by simp [List.lookup]) hd (fun p f => hb _ p f rfl) (hs1 _) fun v h'' tk'' kp2 rd => ?_
      exact ⟨h'', tk'', rfl, fun b o e => kp2 b o (kp1 b o e), rd⟩
  · have eo := each_refs each
    subst eo
    have fr : s2.heap.objs.size ≤ s2.heap.objs.size + 1 := Nat.le_succ _
    have hl2 : ((ys.mergeSort (PySem.W.dataLe false fun y => kd (k y))).map V.ref).length ≤ sizeLine := by
      rw [List.length_map, List.length_mergeSort]; exact hz
    refine ⟨.ref (s2.heap.objs.size + 1), upd H2 (s2.heap.objs.size + 1) (.lst ((ys.mergeSort (PySem.W.dataLe false fun y => kd (k y))).map V.ref)), I2.laid (t' := tk) kp fr ⟨hl2, _, cc, vals_refs2 _, hob⟩, rfl, ?_⟩
    have nN := I2.hok.fresh fr
    exact q _ _ (fun b o e n => by rw [upd_ne (ne_of_none (eN b o e n) nN)]; exact eN b o e n) (T2.ext fun b o e => by rw [upd_ne (ne_of_none e nN)]; exact e) upd_same
end
end K8
namespace PySem
open Sem (wp)
open AutoSeq1 (wpAny_loadPart')
theorem K8_enumT (l : Addr) (items : Array Value) (n : Nat) (dct : Option Addr) (sl : Array (Option Value)) :
    Meets (Builtin.«enumerate.__new__» ⟨[.type "enumerate", .ref l], []⟩) (fun _ R s => s.heap.get? l = some { cls := .type "tuple", dict := dct, data := .seq items n, slots := sl } ∧
      R (.ok (.ret (.ref (s.heap.push { cls := .type "tuple_iterator", data := .fields #[.ref l, .int 0 0] }).objs.size)))
        { s with heap := (s.heap.push { cls := .type "tuple_iterator", data := .fields #[.ref l, .int 0 0] }).push { cls := .type "enumerate", data := .fields #[.none, .bool false, .ref s.heap.objs.size, rawInt 0, .none, .none] } }) :=
  .of_wp fun prog w A R s h => by
    obtain ⟨hp, g, d, tk, os⟩ := s; obtain ⟨hl, h⟩ := h
    have hsub := sub_enumerate
    have hL : Heap.IsTuple (Shared.heap ⟨hp, g, d, tk, os⟩) l items := ⟨_, hl, rfl, n, rfl⟩
    wp_walk using wpAny_loadPart' hl
    refine wpAny_stack_any fun st => wpAny_pure ?_
    split
    · rename_i c _ _ _ _ _
      cases (c == Value.type "enumerate")
      · wp_walk using wpAny_loadPart' hl, wpAny_pyIter_tuple hL
        exact ⟨_, rfl, h⟩
      · wp_walk using wpAny_loadPart' hl, wpAny_pyIter_tuple hL
        exact ⟨_, rfl, h⟩
    · wp_walk using wpAny_loadPart' hl, wpAny_pyIter_tuple hL
      exact ⟨_, rfl, h⟩
section
variable {prog : Program} {w : World} {A : Around} {E : Value → Shared → Prop} {s : Shared}
theorem K8_call_enumT {l : Addr} {items : Array Value} {Q : Value → Shared → Prop} (hL : s.heap.IsTuple l items)
    (h : ∀ h', IsEnum h' (s.heap.objs.size + 1) s.heap.objs.size 0 .none → h'.IsTupleIter s.heap.objs.size l 0 → h'.objs.size = s.heap.objs.size + 2 →
      (∀ b o, s.heap.get? b = some o → h'.get? b = some o) → Q (.ref (s.heap.objs.size + 1)) { s with heap := h' }) :
    wpAny (model prog w) A (call (.type "enumerate") [.ref l]) Q E s := by
  obtain ⟨⟨c, dct, dt, sl⟩, hl, hc, n, hd⟩ := hL
  replace hc : c = .type "tuple" := hc
  replace hd : dt = .seq items n := hd
  subst hc hd
  refine callType_new F.called_enumerate (by decide) (F.typeCall_enumerate_1 _) (F.newCall_enumerate_1 _) (fun obj => F.args_object_init_2 obj _) F.entry_enumerate_new
    (K8_enumT l items n dct sl) ⟨hl, ?_⟩
  have hz : (s.heap.push { cls := .type "tuple_iterator", data := .fields #[.ref l, .int 0 0] }).objs.size = s.heap.objs.size + 1 := Heap.size_push ..
  show _ ∧ _
  rw [hz]
  have he : IsEnum ((s.heap.push { cls := .type "tuple_iterator", data := .fields #[.ref l, .int 0 0] }).push
      { cls := .type "enumerate", data := .fields #[.none, .bool false, .ref s.heap.objs.size, rawInt 0, .none, .none] }) (s.heap.objs.size + 1) s.heap.objs.size 0 .none := by
    have := Heap.get?_push_size (s.heap.push { cls := .type "tuple_iterator", data := .fields #[.ref l, .int 0 0] })
      (o := { cls := .type "enumerate", data := .fields #[.none, .bool false, .ref s.heap.objs.size, rawInt 0, .none, .none] }) rfl
    rw [hz] at this; exact this
  refine ⟨⟨_, he, rfl⟩, h _ he ⟨_, Heap.get?_push_of_some _ (Heap.get?_push_size _ rfl), rfl, rfl⟩ (by rw [Heap.size_push, hz]) fun b o x => Heap.get?_push_of_some _ (Heap.get?_push_of_some _ x)⟩
end
end PySem

namespace K8
open PySem PySem.Spec PyProof.Rows L2
/-! ### enumerate(a tuple) -/
def Itte (K : PySem.W.Frag) (a : Addr) : It :=
  ⟨fun i H => ∃ xs x, SqT K H a xs ∧ xs[i]? = some x, fun i H v H' => ∃ T x, v = .ref T ∧ H T = none ∧ H' = upd H T (.tup [.int (i : Nat), x]) ∧ ∀ xs, SqT K H a xs → xs[i]? = some x, fun i H => ∃ xs, SqT K H a xs ∧ xs.length = i⟩
theorem turn_enumT {P : Program} {w : World} {K : PySem.W.Frag} {elts : List Expr} {kk : Nat} {tpos : Pos} (a e it : Addr) :
    Turn P w K (.Tuple elts kk tpos) (Itte K a) [e, it] e (fun i h => (∃ old, IsEnum h e it ((i : Nat) : Int) old) ∧ h.IsTupleIter it a i ∧ e ≠ it) where
  mem := by simp
  obj := fun i h st b hb => by
    obtain ⟨⟨old, he⟩, ⟨o, ho, hc, hd⟩, _⟩ := st
    have e' : b = e ∨ b = it := by simpa using hb
    rcases e' with z | z
    · rw [z]; exact ⟨_, he, fun v q => nomatch q⟩
    · rw [z]; exact ⟨o, ho, fun v q => by rw [hd] at q; cases q⟩
  keep := fun i h h' st k => let ⟨⟨old, he⟩, hi, hne⟩ := st; ⟨⟨old, k e (by simp) _ he⟩, hi.at fun o q => k it (by simp) o q, hne⟩
  item := by
    intro X hP hw hK hc i pins s σ H E I hf st hg
    subst hP hw hK
    obtain ⟨⟨old, he⟩, hit, hne⟩ := st
    obtain ⟨xs, x, hq, hx⟩ := hg
    obtain ⟨its, rv, p, hz⟩ := I.tuple hq
    obtain ⟨u, hu, ru⟩ := rv.get hx
    have hel : e < s.heap.objs.size := Heap.lt_size he
    have hil : it < s.heap.objs.size := by obtain ⟨_, q, _⟩ := hit; exact Heap.lt_size q
    have hai : a ≠ it := fun z => by
      obtain ⟨o, ho, hco, _⟩ := hit
      obtain ⟨o2, ho2, hc2, _⟩ := p
      rw [z, ho] at ho2
      cases ho2
      rw [hco] at hc2
      injection hc2 with e1
      exact absurd e1 (by decide)
    have hae : a ≠ e := fun z => by
      obtain ⟨o2, ho2, hc2, _⟩ := p
      rw [z, he] at ho2
      cases ho2
      injection hc2 with e1
      exact absurd e1 (by decide)
    have hisz : i < its.toArray.size := by
      have := (List.getElem?_eq_some_iff.mp hu).1
      simpa using this
    refine wpAny_pyNext_enum_itemC (Draws.tuple (A := X.A.in1) (I.ok.hd hc) it a hai its.toArray) he ⟨hit, p⟩ hisz hne (by simp [hne, Ne.symm hae]) fun x' h' tk hPx ho hst' hT hsz hk => ?_
    obtain rfl : u = x' := by
      have e1 : its.toArray[i]? = some u := by simpa using hu
      rw [e1] at hPx
      exact Option.some.inj hPx
    refine ⟨_, rfl, wpAny_letOwnedTupleGo_enum (s := { s with heap := h', toks := tk + 1 }) ho fun h'' he' sb => ?_⟩
    have hT2 : h''.get? s.heap.objs.size = some { cls := .type "tuple", data := .seq #[.int i tk, u] } := (sb.2 _ (Nat.ne_of_gt hel)).trans hT
    have new : ObjOk X.prog X.w (upd H s.heap.objs.size (.tup [.int (i : Nat), x])) h'' s.heap.objs.size (.tup [.int (i : Nat), x]) :=
      ⟨by show 2 ≤ sizeLine; decide, [.int i tk, u], .cons ⟨_, rfl⟩ (.cons ru .nil), ⟨_, hT2, rfl, _, rfl⟩⟩
    have I1 : Inv X pins σ (upd H s.heap.objs.size (.tup [.int (i : Nat), x])) { s with heap := h'', toks := tk + 1 } :=
      I.turnedNew (ch := [e, it]) (fun b ob hb q => (sb.2 b (fun z => hb (by simp [z]))).trans (hk b ob (fun z => hb (by simp [z])) (fun z => hb (by simp [z])) q)) hf (Nat.le_refl _) new
    refine ⟨.ref s.heap.objs.size, _, I1, rfl, ⟨_, x, rfl, I.hok.fresh (Nat.le_refl _), rfl, fun ys hy => by rw [I.tuple_inj hy hq]; exact hx⟩, ⟨⟨u, ?_⟩, hst'.1.at fun o q => (sb.2 it (Ne.symm hne)).trans q, hne⟩, fun b hb => ?_⟩
    · have e1 : ((i + 1 : Nat) : Int) = (i : Int) + 1 := by omega
      rw [e1]; exact he'
    · have hb' : b < s.heap.objs.size := by
        have e' : b = e ∨ b = it := by simpa using hb
        rcases e' with z | z
        · rw [z]; exact hel
        · rw [z]; exact hil
      rw [upd_ne (Nat.ne_of_lt hb')]
      exact (hf b hb).1
  done := by
    intro X hP hw hK hc i pins s σ H E I hf st hg
    subst hP hw hK
    obtain ⟨⟨old, he⟩, hit, hne⟩ := st
    obtain ⟨xs, hq, hx⟩ := hg
    obtain ⟨its, rv, p, hz⟩ := I.tuple hq
    obtain ⟨f0, f1, f2, f3, f4, f5⟩ := hf it (by simp)
    have hl := rv.length
    have hai : a ≠ it := fun z => by
      obtain ⟨o, ho, hco, _⟩ := hit
      obtain ⟨o2, ho2, hc2, _⟩ := p
      rw [z, ho] at ho2
      cases ho2
      rw [hco] at hc2
      injection hc2 with e1
      exact absurd e1 (by decide)
    have hn : i = its.toArray.size := by simp; omega
    subst hn
    exact wpAny_pyNext_enum_endD (Draws.tuple (A := X.A.in1) (I.ok.hd hc) it a hai its.toArray) he ⟨hit, p⟩ fun h' eb => ⟨rfl, I.turned (t' := s.toks) (fun b o hb q => eb b o hb q) f0 f1 f3 f4 f5⟩
  self := fun A i s Q E st h => let ⟨⟨_, he⟩, _⟩ := st; wpAny_pyIter_enum he h
def iEnumT (K : PySem.W.Frag) (ta : TA) : TI := fun σ H R => ta σ H fun vs H1 => ∃ a xs, vs = [.ref a] ∧ SqT K H1 a xs ∧ R (Itte K a) H1
theorem pi_enumT {X : Cx} {e : Expr} {ta : TA} {p pos tpos : Pos} {elts : List Expr} {kk : Nat} (hg : Gl X "enumerate") (hm : X.mg "enumerate" = none) (ha : PA X [e] ta) (hs : starEach [e] X.env = [(false, eval e X.env)] := by rfl) :
    PI X (.Tuple elts kk tpos) (.Call (.Name "enumerate" p) [e] [] pos) (iEnumT X.K ta) := by
  refine ⟨fun pins s σ H R I h => ?_⟩
  refine Call_ (ld_blt I hg hm boot_enumerate (PyProof.Rows.callWith_type1 (thn (ha.run pos pins s σ H _ I h) fun us s1 ⟨vs, H1, I1, r1, q1⟩ => ?_) hs rfl))
  obtain ⟨a, xs, ex, hq, q⟩ := q1
  subst ex
  cases r1 with
  | cons r rr =>
    cases rr
    cases r
    obtain ⟨its, rv, p', hz⟩ := I1.tuple hq
    refine K8_call_enumT (show s1.heap.IsTuple a its.toArray from p') fun h' he hit hsz hk => wpAny_pyIter_enum he ?_
    have I2 : Inv X pins σ H1 { s1 with heap := h' } := I1.kept (t' := s1.toks) hk
    refine ⟨s1.heap.objs.size + 1, [s1.heap.objs.size + 1, s1.heap.objs.size], _, _, H1, rfl, I2, turn_enumT a (s1.heap.objs.size + 1) s1.heap.objs.size, ⟨⟨.none, he⟩, hit, Nat.succ_ne_self _⟩, fun b hb => ?_, q⟩
    have e' : b = s1.heap.objs.size + 1 ∨ b = s1.heap.objs.size := by simpa using hb
    have hle : s1.heap.objs.size ≤ b := by
      rcases e' with z | z
      · rw [z]; exact Nat.le_add_right _ _
      · rw [z]; exact Nat.le_refl _
    exact I1.fpOk hle (I1.hok.fresh hle)
theorem walk_enumT {K : PySem.W.Frag} {a : Addr} {xs : List V} : Walk (Itte K a) xs.length (fun H => SqT K H a xs) (YPair (fun i => some (.int (i : Nat))) (fun i => xs[i]?)) := by
  refine ⟨fun i _ hi q => ⟨xs, xs[i], q, by simp [hi]⟩, fun _ q => ⟨xs, q, rfl⟩, fun i H v H' _ q y => ?_⟩
  obtain ⟨T, x, h1, h2, h3, h4⟩ := y
  exact ⟨T, .int (i : Nat), x, h1, h2, h3, rfl, h4 xs q⟩

/-! ### s * n of a text -/
def rMulS : R2 := fun x y H Q => ∃ (a : Str) (n : Int), x = .str a ∧ y = .int n ∧ MulOk a n ∧ Q (.str (Txt.mul a n)) H
theorem op_mulS {X : Cx} : OpR X (binaryOp .Mult) rMulS := by
  intro pins s σ H x y v u Q I rx ry h
  obtain ⟨a, n, rfl, rfl, ok, q⟩ := h
  obtain ⟨t, rfl⟩ := rx
  obtain ⟨t', rfl⟩ := ry
  exact SB.mul ok fun t' k => ⟨.str (Txt.mul a n), H, I.tok _, ⟨_, rfl⟩, q⟩

/-! ### methods called with keywords -/
def tMethN (C : Addr) (m : Str) (n nk : Nat) (sp : Sp) (gV : List V → List V → List V) (E : XK) (ta : TE) (t tk : TA) : TE := fun σ H Q => ta σ H fun x H1 => ∃ a dx fs, x = .ref a ∧ H1 a = some (.ins C dx fs) ∧ fs.lookup m = none ∧
  t σ H1 fun vs H2 => tk σ H2 fun zs H3 => vs.length = n ∧ zs.length = nk ∧ sp (gV (x :: vs) zs) H3 Q E
section
variable {X : Cx} {CX : CXT} {k n : Nat} {f C : Addr} {fd : FuncData} {ps ks : List Str} {sp : Sp} {E : XK} {m : Str} {apos pos : Pos} {o : Expr} {kws : List Keyword} {ta : TE} {tk : TA} {g : List Value → List Value → List Value} {gV : List V → List V → List V}
/-- o.m(k = v, ..), keywords alone -/
theorem pe_methN0 {pl : Sem Bool} (he : PE X o ta) (c : Cls X.K C) (hm : Meth X.K C m f) (F : FnOk X.prog X.w X.K X.mg X.base CX k f fd ps sp) (hr : Room k X.A) (hb : KBn X.K fd ps 1 ks g gV) (hx : Passes CX X E)
    (hkw : PK X kws tk) (hall : (backToKw pos (keywordEach kws X.env)).all (·.1.isSome) = true := by rfl) (hks : (backToKw pos (keywordEach kws X.env)).filterMap (·.1) = ks := by rfl)
    (hpl : ((backTo pos (starEach [] X.env)).any (·.1) || (backToKw pos (keywordEach kws X.env)).any (·.1.isNone)) = false := by rfl)
    (ht : eval (.Call (.Attribute o m apos) [] kws pos) X.env = (do
      let ov ← eval o X.env
      standAt apos.atName
      let (f, first) ← holding [ov] (getMethod ov m pl)
      callWith pos f first (backTo pos (starEach [] X.env)) (backToKw pos (keywordEach kws X.env))) := by rfl) :
    PE X (.Call (.Attribute o m apos) [] kws pos) (tMethN C m 0 ks.length sp gV E ta tNil tk) := by
  refine ⟨fun pins s σ H Q I h => ?_⟩
  refine PySem.W.methodCall_KW (pl := pl) (thn (he.run pins s σ H _ I h) fun u s1 ⟨x, H1, I1, rx, a, dx, fs, ex, ea, l, q⟩ => ?_) ht
  subst ex
  obtain rfl : u = Value.ref a := rx
  refine getmeth_ok I1 ea c hm l ?_
  refine PySem.W.callWith_KW0 (first := [.ref a]) (h₀ := X.base) I1.ok.mod.kin hm.kp hall ?_ hpl
  refine thn (hkw.run pos pins s1 σ H1 _ I1 q) fun ws s2 ⟨zs, H2, I2, rz, l1, l2, q2⟩ => ⟨I2.kIn, ?_⟩
  rw [hks]
  exact run_fnN (us := [.ref a]) (vs := [.ref a]) F hr hb hx I2 (vref1 a) rz rfl l2 q2
end

/-! ### sum(xs, start=z) -/
def preZ (z : Int) (val : Nat → Int) : Nat → Int
  | 0 => z
  | j + 1 => preZ z val j + val j
theorem preZ_eq (z : Int) (val : Nat → Int) : ∀ n, preZ z val n = z + preSum val n
  | 0 => by simp [preZ, preSum]
  | n + 1 => by rw [preZ, preSum, preZ_eq z val n]; omega
section
variable {prog : Program} {w : World} {A : Around} {R : Result → Shared → Prop} {I : Addr} {fp wr : List Addr} {n : Nat} {P : Nat → Value → Prop} {St : Nat → Heap → Prop}
theorem sum_loopZ (z : Int) (W : Walks prog w A.in1 I fp wr n P St) (val : Nat → Int) (hval : ∀ i v, P i v → ∃ t, v = .int (val i) t) (S : Addr) (hSf : S ∉ fp) :
    ∀ (k i : Nat) (s : Shared) (tA : Tok) (c : Nat) (stage : Int), (stage = 0 ∨ stage = 2) → n - i = k → i ≤ n → St i s.heap → s.heap.get? S = some { cls := .type "list", dict := none, data := .seq #[.int (preZ z val i) tA] c, slots := #[] } →
    (∀ h' tk t', (∀ b o, b ∉ wr → b ≠ S → s.heap.get? b = some o → h'.get? b = some o) → R (.ok (.ret (.int (preZ z val n) t'))) { s with heap := h', toks := tk }) →
    codeAny (model prog w) A (.builtin "sum.loop" ⟨[.ref I, .ref S, rawInt stage, rawInt 0], []⟩) R s := by
  have hSw : S ∉ wr := fun h => hSf (W.sub _ h)
  intro k
  induction k with
  | zero =>
    intro i s tA c stage hstage hk hi hst hS hR
    have hin : i = n := by omega
    subst hin
    refine codeAny_builtin F.entry_sum_loop ?_
    rw [Around.under_plainId F.plain_sum_loop _]
    show wpAny _ A.in1 (seqItems? (.ref S) >>= _) _ _ s
    refine wpAny_bind (wpAny_seqItems hS rfl ?_)
    show wpAny _ A.in1 (tryCatch (pyNext (.ref I)) _ >>= _) _ _ s
    refine wpAny_bind (wpAny_tryCatch (W.done s _ _ hst fun h' tk hk' => ?_))
    exact wpAny_pure (hR h' tk tA fun b o hbw _ e => hk' b o hbw e)
  | succ k ih =>
    intro i s tA c stage hstage hk hi hst hS hR
    have hlt : i < n := by omega
    refine codeAny_builtin F.entry_sum_loop ?_
    rw [Around.under_plainId F.plain_sum_loop _]
    show wpAny _ A.in1 (seqItems? (.ref S) >>= _) _ _ s
    refine wpAny_bind (wpAny_seqItems hS rfl ?_)
    show wpAny _ A.in1 (tryCatch (pyNext (.ref I)) _ >>= _) _ _ s
    refine wpAny_bind (wpAny_tryCatch (W.item i s _ _ hlt hst fun v h' tk hP hst' hk' => ?_))
    obtain ⟨t, rfl⟩ := hval i v hP
    have hS' := hk' S _ hSw hS
    rcases hstage with rfl | rfl
    · show wpAny _ A.in1 (if (_ : Bool) = true then (mkInt (preZ z val i + val i) >>= _) else _) _ _ _
      split
      · refine wpAny_bind (wpAny_mkInt ?_)
        show wpAny _ A.in1 (updateSeq S (fun _ => #[.int (preZ z val i + val i) tk]) >>= _) _ _ _
        refine wpAny_bind ?_
        refine wpAny_updateSeq hS' rfl (wpAny_pure ⟨plainId_quiet F.plain_sum_loop _, ih (i + 1) _ tk _ 0 (Or.inl rfl) (by omega) hlt (W.frame _ _ _ hst' fun b hb o e => ?_) (Heap.get?_update_self _ hS' rfl) fun h'' tk'' t'' hk'' => ?_⟩)
        · exact (Heap.get?_update_other _ _ (fun h : S = b => hSf (by rw [h]; exact hb))).trans e
        · exact hR h'' tk'' t'' fun b o hbw hbS e => hk'' b o hbw hbS ((Heap.get?_update_other _ _ (Ne.symm hbS)).trans (hk' b o hbw e))
      · refine wpAny_bind (wpAny_rule ?_)
        refine wpAny_bind (wpAny_attempt (wpAny_holding (PySem.P.add_int ?_)))
        show wpAny _ A.in1 (updateSeq S (fun _ => #[.int (preZ z val i + val i) tk]) >>= _) _ _ _
        refine wpAny_bind ?_
        refine wpAny_updateSeq hS' rfl ?_
        have hS2 := Heap.get?_update_self (Obj.mapSeq fun _ => #[Value.int (preZ z val i + val i) tk]) hS' rfl
        refine wpAny_bind (wpAny_letGo ?_)
        refine wpAny_bind ?_
        refine wpAny_updateSeq hS2 rfl (wpAny_pure ⟨plainId_quiet F.plain_sum_loop _, ih (i + 1) _ tk _ 2 (Or.inr rfl) (by omega) hlt (W.frame _ _ _ hst' fun b hb o e => ?_) (Heap.get?_update_self _ hS2 rfl) fun h'' tk'' t'' hk'' => ?_⟩)
        · exact (Heap.get?_update_other _ _ (fun h : S = b => hSf (by rw [h]; exact hb))).trans ((Heap.get?_update_other _ _ (fun h : S = b => hSf (by rw [h]; exact hb))).trans e)
        · exact hR h'' tk'' t'' fun b o hbw hbS e => hk'' b o hbw hbS ((Heap.get?_update_other _ _ (Ne.symm hbS)).trans ((Heap.get?_update_other _ _ (Ne.symm hbS)).trans (hk' b o hbw e)))
    · show wpAny _ A.in1 ((holding [Value.int (val i) t] (binaryOp .Add (.int (preZ z val i) tA) (.int (val i) t))).attempt >>= _) _ _ _
      refine wpAny_bind (wpAny_attempt (wpAny_holding (PySem.P.add_int ?_)))
      show wpAny _ A.in1 (updateSeq S (fun _ => #[.int (preZ z val i + val i) tk]) >>= _) _ _ _
      refine wpAny_bind ?_
      refine wpAny_updateSeq hS' rfl ?_
      have hS2 := Heap.get?_update_self (Obj.mapSeq fun _ => #[Value.int (preZ z val i + val i) tk]) hS' rfl
      refine wpAny_bind (wpAny_letGo ?_)
      refine wpAny_bind ?_
      refine wpAny_updateSeq hS2 rfl (wpAny_pure ⟨plainId_quiet F.plain_sum_loop _, ih (i + 1) _ tk _ 2 (Or.inr rfl) (by omega) hlt (W.frame _ _ _ hst' fun b hb o e => ?_) (Heap.get?_update_self _ hS2 rfl) fun h'' tk'' t'' hk'' => ?_⟩)
      · exact (Heap.get?_update_other _ _ (fun h : S = b => hSf (by rw [h]; exact hb))).trans ((Heap.get?_update_other _ _ (fun h : S = b => hSf (by rw [h]; exact hb))).trans e)
      · exact hR h'' tk'' t'' fun b o hbw hbS e => hk'' b o hbw hbS ((Heap.get?_update_other _ _ (Ne.symm hbS)).trans ((Heap.get?_update_other _ _ (Ne.symm hbS)).trans (hk' b o hbw e)))
end
section
variable {prog : Program} {w : World} {A : Around} {E : Value → Shared → Prop} {s : Shared}
theorem args_sum_start (a v : Value) : argsOk "sum" ⟨[a], [(Str.ofString "start", v)]⟩ := by unfold argsOk; kernel_rfl
theorem fn_tree_kw {id : String} {b : Builtin} {args : List Value} {kw : List (Str × Value)} {Q : Value → Shared → Prop} (hk : builtinKind id = none) (hp : plainId id = true)
    (hb : entryFor table id = some b) (ha : argsOk id ⟨args, kw⟩)
    (hc : wpAny (model prog w) A.in1 (b ⟨args, kw⟩) (GQ.FinOf prog w A (wants Q E)) (fun e s' => wants Q E (.error e) s') s) :
    wpAny (model prog w) A (call (.builtin id) args kw) Q E s := by
  refine wpAny_call (codeAny_call_builtin hp hb ?_)
  simp only [checkBuiltinCall, hk]
  cases hsig : Manifest.signature? id with
  | none => exact wpAny_pure hc
  | some sig =>
    simp only [argsOk, hsig] at ha
    have h2 : Bind.checkArgs id sig ⟨args, kw⟩ = pure () := ha
    show wpAny _ A.in1 (Bind.checkArgs id sig ⟨args, kw⟩) _ _ s
    rw [h2]; exact wpAny_pure hc
theorem call_sumZ {x : Value} {z : Int} {tz : Tok} {Q : Value → Shared → Prop}
    (h : wpAny (model prog w) A.in1 (pyIter x) (fun it s₂ => ∃ I fp wr n P St val, it = .ref I ∧ Walks prog w A.in1 I fp wr n P St ∧ St 0 s₂.heap ∧ (∀ b ∈ fp, b < s₂.heap.objs.size) ∧
      (∀ i v, P i v → ∃ t, v = .int (val i) t) ∧
      ∀ h' tk t', (∀ b o, b ∉ wr → s₂.heap.get? b = some o → h'.get? b = some o) → Q (.int (preZ z val n) t') { s₂ with heap := h', toks := tk }) E s) :
    wpAny (model prog w) A (call (.builtin "sum") [x] [(Str.ofString "start", .int z tz)]) Q E s := by
  refine fn_tree_kw F.kind_sum F.plain_sum F.entry_sum (args_sum_start _ _) ?_
  unfold Builtin.«sum»
  simp only [List.length_cons, List.length_nil]
  rw [if_neg (by decide)]
  refine wpAny_bind (wpAny_of_eq (show Builtin.Builtins.bindParams "sum" ["start"] 0 ⟨[], [(Str.ofString "start", .int z tz)]⟩ = pure [some (.int z tz)] from rfl) ?_)
  refine wpAny_bind (wpAny_mono h (fun it s₂ h₂ => ?_) fun _ _ e => e)
  obtain ⟨I, fp, wr, n, P, St, val, rfl, W, hst, hfp, hval, hQ⟩ := h₂
  have go : ∀ (tz' : Tok) (stage : Int) (tk : Nat), (stage = 0 ∨ stage = 2) → wpAny (model prog w) A.in1 (do
      for (ty, what, hint) in [("str", "strings", "''"), ("bytes", "bytes", "b''"), ("bytearray", "bytearray", "b''")] do
        if ← isInstance (Value.int z tz') (.type ty) then
          rule "sum.start-refused"; raiseError "TypeError" s!"sum() can't sum {what} [use {hint}.join(seq) instead]"
      again (.builtin "sum.loop" ⟨[.ref I, ← newList [.int z tz'], rawInt stage, rawInt 0], []⟩)) (GQ.FinOf prog w A (wants Q E)) (fun e s' => wants Q E (.error e) s') { s₂ with toks := tk } := by
    intro tz' stage tk hstage
    simp only [List.forIn_cons, List.forIn_nil]
    refine wpAny_bind (wpAny_bind (wpAny_bind (wpAny_isInstance (T := "int") (b := false) (typeIs_int _ _ _) PySem.sub_int_str ?_)))
    simp only [Bool.false_eq_true, if_false]
    refine wpAny_pure (wpAny_bind (wpAny_bind (wpAny_isInstance (T := "int") (b := false) (typeIs_int _ _ _) PySem.sub_int_bytes ?_)))
    simp only [Bool.false_eq_true, if_false]
    refine wpAny_pure (wpAny_bind (wpAny_bind (wpAny_isInstance (T := "int") (b := false) (typeIs_int _ _ _) PySem.sub_int_bytearray ?_)))
    simp only [Bool.false_eq_true, if_false]
    refine wpAny_pure (wpAny_pure ?_)
    refine wpAny_bind (wpAny_newObj_type ?_)
    have hSf : s₂.heap.objs.size ∉ fp := fun hm => Nat.lt_irrefl _ (hfp _ hm)
    refine wpAny_pure ⟨plainId_quiet F.plain_sum_loop _, sum_loopZ z W val hval s₂.heap.objs.size hSf n 0 _ tz' 0 stage hstage rfl (Nat.zero_le _)
      (W.frame _ _ _ hst fun b _ o e => Heap.get?_push_of_some _ e) (Heap.get?_push_size _ rfl) fun h' tk t' hk => ?_⟩
    exact hQ h' tk t' fun b o hbw e => hk b o hbw (Nat.ne_of_lt (Heap.lt_size e)) (Heap.get?_push_of_some _ e)
  dsimp only
  split
  · refine wpAny_bind (wpAny_rule (wpAny_bind (wpAny_mkInt (wpAny_bind (wpAny_pure ?_)))))
    exact go _ 0 _ (.inl rfl)
  · refine wpAny_bind (wpAny_pure ?_)
    exact go _ 2 _ (.inr rfl)
theorem sum_listZ {l : Addr} {xs : Array (Int × Tok)} {z : Int} {tz : Tok} {Q : Value → Shared → Prop} (hh : A.handled = none) (hl : s.heap.IsList l (intItems xs))
    (h : ∀ h' tk t', (∀ b o, s.heap.get? b = some o → h'.get? b = some o) → Q (.int (preZ z (numAt xs) xs.size) t') { s with heap := h', toks := tk }) :
    wpAny (model prog w) A (call (.builtin "sum") [.ref l] [(Str.ofString "start", .int z tz)]) Q E s := by
  refine call_sumZ (iter_intList hl fun s₂ e st hfp hlI => ?_)
  subst e
  refine ⟨_, _, _, _, _, _, numAt xs, rfl, Walks.list (A := A.in1) hh _ l hlI (intItems xs), st, hfp, (fun _ _ => intItems_at), fun h' tk t' hk => ?_⟩
  have := h h' tk t' (old_kept hk)
  simpa [intItems] using this
theorem sum_rawZ {l : Addr} {its : List Value} {ns : List Int} {z : Int} {tz : Tok} {Q : Value → Shared → Prop} (hh : A.handled = none) (hl : s.heap.IsList l its.toArray) (hi : IntsAre its ns)
    (h : ∀ h' tk t', (∀ b o, s.heap.get? b = some o → h'.get? b = some o) → Q (.int (z + ns.sum) t') { s with heap := h', toks := tk }) : wpAny (model prog w) A (call (.builtin "sum") [.ref l] [(Str.ofString "start", .int z tz)]) Q E s := by
  obtain ⟨xs, e⟩ := hi.allInts.items
  have hn : numsOf (intItems xs).toList = ns := by rw [← e]; exact hi.numsOf
  rw [nums_intItems] at hn
  rw [e] at hl
  refine sum_listZ hh hl fun h' tk t' hk => ?_
  have := h h' tk t' hk
  rw [preZ_eq, preSum_eq, List.take_of_length_le (by simp), hn]; exact this
end
def rSumZ (K : PySem.W.Frag) : List V → List V → Hp → VK → Prop := fun vs zs H Q => ∃ (a : Addr) (ns : List Int) (z : Int), vs = [V.ref a] ∧ zs = [V.int z] ∧ SqL K H a (ns.map V.int) ∧ Q (.int (z + ns.sum)) H
theorem cr_sumZ {X : Cx} (hc : X.calm = true) : CallRK X (.builtin "sum") [Str.ofString "start"] (rSumZ X.K) := by
  intro pins s σ H vs zs us ws Q I r rz h
  obtain ⟨a, ns, z, rfl, rfl, hs, q⟩ := h
  obtain rfl := Vals.ref1 r
  obtain ⟨w1, rfl, e1⟩ := vals1 rz
  obtain ⟨tz, rfl⟩ := e1
  obtain ⟨its, rv, hl, hz⟩ := I.list hs
  exact sum_rawZ (I.ok.hd hc) hl.isList rv.ints fun h' tk t' k => ⟨.int (z + ns.sum), H, I.kept k, ⟨t', rfl⟩, q⟩
end K8
namespace K8
open PySem PySem.Spec PyProof.Rows L2
/-! ### tuples whose object has no own dict: methods can be called of them -/
def FTup (H : Hp) (p : Addr) (xs : List V) : Prop := ∃ o : Obj, o.dict = none ∧ H p = some (.frz o (.tup xs))
theorem FTup.sq {K : PySem.W.Frag} {H : Hp} {p : Addr} {xs : List V} (h : FTup H p xs) : SqT K H p xs := let ⟨o, _, h⟩ := h; .inl (.inr ⟨o, h⟩)
theorem FTup.ext {H H' : Hp} {p : Addr} {xs : List V} (h : FTup H p xs) (e : Ext H H') : FTup H' p xs := let ⟨o, d, h⟩ := h; ⟨o, d, e _ _ h⟩
theorem FTup.keep {H H' : Hp} {p : Addr} {xs : List V} (h : FTup H p xs) (e : ∀ o, H p = some o → H' p = some o) : FTup H' p xs := let ⟨o, d, h⟩ := h; ⟨o, d, e _ h⟩
/-- what a new tuple gives -/
def rNewF (xs : List V) (H : Hp) (Q : VK) : Prop := ∀ p H', H p = none → (∃ o : HO, H' = upd H p o) → FTup H' p xs → Q (.ref p) H'
section
variable {X : Cx} {pins : List (Addr × Obj)} {σ : L2.St} {H : Hp} {s : Shared}
theorem newF {Q : VK} {xs : List V} {its : List Value} {h' : Heap} {n : Nat} (I : Inv X pins σ H { s with heap := h' }) (z : xs.length ≤ sizeLine) (r : Vals xs its) (q : rNewF xs H Q) :
    EP X pins σ Q (.ref h'.objs.size) { s with heap := h'.push { cls := .type "tuple", data := .seq its.toArray n } } :=
  ⟨.ref h'.objs.size, _, I.laid (t' := s.toks) (o := .frz { cls := .type "tuple", data := .seq its.toArray n } (.tup xs)) (fun b u e => Heap.get?_push_of_some _ e) (Nat.le_refl _)
    ⟨Heap.get?_push_size _ rfl, z, its, r, ⟨_, Heap.get?_push_size _ rfl, rfl, _, rfl⟩⟩, rfl, q _ _ (I.hok.fresh (Nat.le_refl _)) ⟨_, rfl⟩ ⟨_, rfl, upd_same⟩⟩
end
section
variable {X : Cx}
def tTupF (t : TA) : TE := fun σ H Q => t σ H fun xs H1 => xs.length ≤ sizeLine ∧ rNewF xs H1 Q
theorem pe_tupF {x1 : Nat} {es : List Expr} {pos : Pos} {t : TA} (h : PA X es t) : PE X (.Tuple es x1 pos) (tTupF t) := by
  refine ⟨fun pins s σ H Q I hq => ?_⟩
  refine wpAny_Tuple_spliced (thn (h.run pos pins s σ H _ I hq) fun us s1 hz => ?_)
  obtain ⟨xs, H1, I1, r, z, q⟩ := hz
  exact ⟨by rw [← r.length]; exact z, newF (h' := s1.heap) I1 z r q⟩
/-- tuple(list) -/
theorem call_tupF : CallR X (.type "tuple") (fun xs H Q => ∃ p ys, xs = [.ref p] ∧ SqL X.K H p ys ∧ rNewF ys H Q) := by
  intro pins s σ H xs us Q I r h
  obtain ⟨p, ys, rfl, hq, q⟩ := h
  obtain ⟨u, rfl, rx⟩ := vals1 r
  cases rx
  obtain ⟨its, r', pl, hz⟩ := I.list hq
  have hlen := r'.length
  exact call_tuple_list pl.isList (fun h' kp => newF (h' := h') (I.kept (t' := s.toks) kp) hz r' q) (by simp only [List.size_toArray] <;> omega)
/-- t[lo:hi] -/
def rSlF (K : PySem.W.Frag) : V → Option Int → Option Int → Hp → VK → Prop := fun x lo hi H Q => ∃ a xs, x = .ref a ∧ SqT K H a xs ∧
  (HT.sIx xs.length 0 lo = 0 ∧ HT.sIx xs.length xs.length hi = xs.length → Q (.ref a) H) ∧ (¬ (HT.sIx xs.length 0 lo = 0 ∧ HT.sIx xs.length xs.length hi = xs.length) → rNewF (cutV xs lo hi) H Q)
theorem sl_tupF : SlR X (rSlF X.K) := by
  intro pins s σ H x v vl vu lo hi sl Q I rx hs pl pu h
  obtain ⟨a, xs, rfl, hx, q1, q2⟩ := h
  cases rx
  obtain ⟨its, r, ht, hz⟩ := I.tuple hx
  have hlen : its.toArray.size = xs.length := by rw [List.size_toArray]; exact r.length.symm
  refine ⟨"tuple", _, PyProof.Rows.slot_tuple_getitem.lookup, ht.typeIs, ?_⟩
  by_cases hw : HT.sIx xs.length 0 lo = 0 ∧ HT.sIx xs.length xs.length hi = xs.length
  · exact getItem_tuple_whole ht hs pl pu (by rw [hlen]; exact hw) ⟨.ref a, H, I, rfl, q1 hw⟩
  · refine HT.getItem_tuple_cut ht hs pl pu (by rw [hlen]; exact hw) ?_ (by rw [hlen]; exact hz)
    rw [hlen]
    exact newF (h' := s.heap) I (Nat.le_trans (cutV_length xs lo hi) hz) ((r.drop (HT.sIx xs.length 0 lo)).take (HT.sIx xs.length xs.length hi - HT.sIx xs.length 0 lo)) (q2 hw)
/-- t + u -/
def rCatF (K : PySem.W.Frag) : R2 := fun x y H Q => ∃ a b xs ys, x = .ref a ∧ y = .ref b ∧ SqT K H a xs ∧ SqT K H b ys ∧ xs.length + ys.length ≤ sizeLine ∧
  (xs = [] → Q (.ref b) H) ∧ (xs ≠ [] → ys = [] → Q (.ref a) H) ∧ (xs ≠ [] → ys ≠ [] → rNewF (xs ++ ys) H Q)
theorem op_catF : OpR X (binaryOp .Add) (rCatF X.K) := by
  intro pins s σ H x y v u Q I rx ry h
  obtain ⟨a, b, xs, ys, rfl, rfl, ha, hb, hz, q0, q1, q2⟩ := h
  cases rx
  cases ry
  obtain ⟨its, r1, p1, _⟩ := I.tuple ha
  obtain ⟨its2, r2, p2, _⟩ := I.tuple hb
  by_cases hx : xs = []
  · subst hx
    cases r1
    exact cat_tup0 p1 p2 ⟨.ref b, H, I, rfl, q0 rfl⟩
  · refine HT.cat_tup p1 p2 (fun z => hx (r1.nil_iff.mp z)) (fun z => ⟨.ref a, H, I, rfl, q1 hx (r2.nil_iff.mp z)⟩) (fun z => ?_) (by rw [← r1.length, ← r2.length]; exact hz)
    exact newF (h' := s.heap) I (by rw [List.length_append]; exact hz) (r1.append r2) (q2 hx (fun w => z (r2.nil_iff.mpr w)))
/-- t.m(e) of such a tuple -/
def tBMF (r : V → List V → Hp → VK → Prop) (to : TE) (t : TA) : TE := fun σ H Q => to σ H fun x H1 => (∃ p xs, x = .ref p ∧ FTup H1 p xs) ∧ t σ H1 fun vs H2 => r x vs H2 Q
theorem pe_bmF {o e : Expr} {es : List Expr} {to : TE} {t : TA} {m : Str} {ap cp : Pos} {id : String} {r : V → List V → Hp → VK → Prop} (slot : Slot "tuple" m id) (ty : typeOf (.builtin id) = pure (.type "method_descriptor")) (hm : MtR X id r) (ho : PE X o to) (ha : PA X (e :: es) t)
    (hbase : attributeBase o m X.env (eval o X.env) = eval o X.env := by rfl)
    (hfew : ((backTo cp (starEach (e :: es) X.env)).all (fun x => !x.1) && (backToKw cp (keywordEach [] X.env)).all (fun x => x.1.isSome) && decide ((e :: es).length + ([] : List Keyword).length + (if ([] : List Keyword).isEmpty then 0 else 1) < 30)) = true := by rfl)
    (hline : (ap.endLine == cp.line) = true := by rfl) (hs : starEach (e :: es) X.env = (false, eval e X.env) :: starEach es X.env := by rfl) (hpl : (backTo cp (starEach es X.env)).any (·.1) = false := by rfl) :
    PE X (.Call (.Attribute o m ap) (e :: es) [] cp) (tBMF r to t) := by
  refine ⟨fun pins s σ H Q I h => ?_⟩
  refine wpAny_Call_method_late hbase hfew hline rfl (thn (ho.run pins s σ H _ I h) fun v s1 hz => ?_)
  obtain ⟨x, H1, I1, r1, ⟨p, xs, rfl, ob, hd, hp⟩, q1⟩ := hz
  cases r1
  obtain ⟨hg, _, its, _, ob2, h2, hc, _⟩ : s1.heap.get? p = some ob ∧ ObjOk X.prog X.w H1 s1.heap p (.tup xs) := I1.hok p _ hp
  refine ⟨"tuple", id, PySem.F.plainAttrs_tuple, slot, ty, ⟨ob2, h2, hc⟩, fun a e => by cases e; exact ⟨ob, hg, hd⟩, ?_⟩
  have hA := ha.run cp pins s1 σ H1 _ I1 q1
  rw [hs] at hA ⊢
  have hp1 : ((backTo cp ((false, eval e X.env) :: starEach es X.env)).any (·.1)) = false := by show (false || (backTo cp (starEach es X.env)).any (·.1)) = false; rw [hpl]; rfl
  refine Calls.callWith_builtin hp1 (Calls.evalArgs_plain (thn hA fun us s2 hv => ?_))
  obtain ⟨vs, H2, I2, r2, q2⟩ := hv
  exact hm pins s2 σ H2 (.ref p) vs (.ref p) us Q I2 rfl r2 q2
end
end K8
namespace PK
open PySem L2 K8
/-! ### the text by places -/
def top (i : Nat) : Stmt := PySem.Challenge.pw_paperkin_k08_whole_round_and_back.main.body.getD i (.Pass ⟨0, 0, 0, 0⟩)
abbrev sBadI : Stmt := inClass (top 1) 0
abbrev sWhole : Stmt := top 9
abbrev sNumber : Stmt := top 10
abbrev sName : Stmt := top 11
abbrev sText : Stmt := top 12
abbrev sSqueezed : Stmt := top 13
abbrev sAnswers : Stmt := top 18
abbrev sOf : Stmt := top 19
abbrev sInit : Stmt := inClass (top 20) 0
abbrev sParts : Stmt := inClass (top 20) 1
abbrev sEq : Stmt := inClass (top 20) 2
abbrev sLen : Stmt := inClass (top 20) 3
abbrev sRepr : Stmt := inClass (top 20) 4
abbrev sStr : Stmt := inClass (top 20) 5
abbrev sAnswer : Stmt := inClass (top 20) 6
abbrev sTurned : Stmt := inClass (top 20) 7
abbrev sChanged : Stmt := inClass (top 20) 8
abbrev sIsKin : Stmt := inClass (top 20) 9
abbrev sNeedQ : Stmt := top 21
abbrev sNeedQs : Stmt := top 22
abbrev sByToil : Stmt := top 23
abbrev sToilSum : Stmt := top 24
abbrev sMixed : Stmt := top 26
abbrev sStream : Stmt := top 27
abbrev sTake : Stmt := top 28
abbrev sNameBy : Stmt := top 29
abbrev sTextBy : Stmt := top 30
abbrev sAnswersBy : Stmt := top 31
abbrev sPartsBy : Stmt := top 32
abbrev sLawOf : Stmt := top 33
abbrev sTurnsR : Stmt := top 34
abbrev sChangesR : Stmt := top 35
abbrev sSumsR : Stmt := top 36
abbrev sTextsR : Stmt := top 37
abbrev sLaw : Stmt := top 38
/-- what a caller knows of a def -/
structure Callee (P : Program) (w : World) (K : PySem.W.Frag) (mg : Str → Option Value) (base : Heap) (CX : CXT) (k : Nat) (x : Str) (f : Addr) (fd : FuncData) (ps : List Str) (sp : Sp) : Prop where
  ok : FnOk P w K mg base CX k f fd ps sp
  mg : mg x = some (.ref f)
  kp : PySem.W.keepIn K (.ref f) = true
  bd : Binds K fd ps []

/-! ### texts -/
abbrev letT : Str := "abcdefghijklmnopqrstuvwxyz"
abbrev sgnT : Str := " !\"#$&'()*+,-./0123456789:;<=>?@ABCDEFGHIJKLMNOPQRSTUVWXYZ[\\]^_`abcdefghijklmnopqrstuvwxyz{|}~"
/-- a name -/
structure NameOk (x : Str) : Prop where
  lo : 1 ≤ x.length
  hi : x.length ≤ 8
  all : ∀ c ∈ x.cps.toList, c ∈ letT.cps.toList
/-- a text of good signs without blanks at its ends -/
structure Clean (x : Str) : Prop where
  all : ∀ c ∈ x.cps.toList, c ∈ sgnT.cps.toList
  ends : Txt.stripChars x " " = x
structure TextOk (x : Str) : Prop where
  cl : Clean x
  lo : 1 ≤ x.length
  hi : x.length ≤ 30
/-! ### small words -/
theorem len1000 {n : Nat} (h : n ≤ 1000) : n ≤ sizeLine := Nat.le_trans h (by decide)
theorem _root_.L2.Ext.get {H H' : Hp} (e : Ext H H') {a : Addr} {o : HO} (h : H a = some o) : H' a = some o := e a o h
theorem _root_.L2.Ext.free {H H' : Hp} (e : Ext H H') {l : Addr} (h : H' l = none) : H l = none := by
  cases q : H l with
  | none => rfl
  | some o =>
    rw [e l o q] at h
    cases h
/-- a new object, then one changed at that place -/
theorem _root_.L2.Ext.new {H H1 : Hp} (e : Ext H H1) {p : Addr} (hp : H p = none) (o : HO) : Ext H (upd H1 p o) := fun a u h => by
  rw [upd_ne (ne_of_none h hp)]
  exact e a u h
theorem rep_snoc {α : Type} (x : α) (n : Nat) : List.replicate n x ++ [x] = List.replicate (n + 1) x := by
  rw [List.replicate_succ']
theorem all_true (n : Nat) : (List.replicate n true).all id = true := by
  simp
/-! ### questions -/
structure Qn where
  name : Str
  matter : Str
  answers : List Str
  right : Int
  toil : Int
  marks : Int
  kin : Str
  deriving DecidableEq
structure Qn.Good (q : Qn) : Prop where
  nm : NameOk q.name
  mt : NameOk q.matter
  lo : 2 ≤ q.answers.length
  hi : q.answers.length ≤ 6
  tx : ∀ x ∈ q.answers, TextOk x
  nd : q.answers.Nodup
  r0 : 0 ≤ q.right
  r1 : q.right < q.answers.length
  t0 : 1 ≤ q.toil
  t1 : q.toil ≤ 9
  m0 : 1 ≤ q.marks
  m1 : q.marks ≤ 9
  kn : q.kin = Str.empty ∨ NameOk q.kin
abbrev qkeys : List Str := ["name", "matter", "answers", "right", "toil", "marks", "kin"]
theorem qkeys_nd : qkeys.Nodup := by decide +kernel
def qvals (q : Qn) (t : Addr) : List V := [.str q.name, .str q.matter, .ref t, .int q.right, .int q.toil, .int q.marks, .str q.kin]
def flds (q : Qn) (t : Addr) : List (Str × V) := qkeys.zip (qvals q t)
theorem lookup_get {ks : List Str} {vs : List V} (nd : ks.Nodup) {i : Nat} {k : Str} {v : V} (h1 : ks[i]? = some k) (h2 : vs[i]? = some v) : (ks.zip vs).lookup k = some v := by
  induction ks generalizing vs i with
  | nil => simp at h1
  | cons a ks ih =>
    cases vs with
    | nil => simp at h2
    | cons b vs =>
      rw [List.zip_cons_cons, List.lookup_cons]
      cases i with
      | zero =>
        simp at h1 h2
        subst h1
        subst h2
        simp
      | succ i =>
        simp at h1 h2
        have hn : (k == a) = false := by
          rw [beq_eq_false_iff_ne]
          intro e
          subst e
          exact (List.nodup_cons.mp nd).1 (List.mem_of_getElem? h1)
        rw [hn]
        exact ih (List.nodup_cons.mp nd).2 h1 h2
theorem lookup_no {ks : List Str} {vs : List V} {k : Str} (h : k ∉ ks) : (ks.zip vs).lookup k = none := by
  induction ks generalizing vs with
  | nil => rfl
  | cons a ks ih =>
    cases vs with
    | nil => rfl
    | cons b vs =>
      rw [List.zip_cons_cons, List.lookup_cons]
      have hn : (k == a) = false := by
        rw [beq_eq_false_iff_ne]
        intro e
        exact h (by rw [e]; exact List.mem_cons_self)
      rw [hn]
      exact ih fun z => h (List.mem_cons_of_mem _ z)
theorem fl_name (q : Qn) (t : Addr) : (flds q t).lookup ("name" : Str) = some (.str q.name) := lookup_get (i := 0) qkeys_nd rfl rfl
theorem fl_matter (q : Qn) (t : Addr) : (flds q t).lookup ("matter" : Str) = some (.str q.matter) := lookup_get (i := 1) qkeys_nd rfl rfl
theorem fl_answers (q : Qn) (t : Addr) : (flds q t).lookup ("answers" : Str) = some (.ref t) := lookup_get (i := 2) qkeys_nd rfl rfl
theorem fl_right (q : Qn) (t : Addr) : (flds q t).lookup ("right" : Str) = some (.int q.right) := lookup_get (i := 3) qkeys_nd rfl rfl
theorem fl_toil (q : Qn) (t : Addr) : (flds q t).lookup ("toil" : Str) = some (.int q.toil) := lookup_get (i := 4) qkeys_nd rfl rfl
theorem fl_marks (q : Qn) (t : Addr) : (flds q t).lookup ("marks" : Str) = some (.int q.marks) := lookup_get (i := 5) qkeys_nd rfl rfl
theorem fl_kin (q : Qn) (t : Addr) : (flds q t).lookup ("kin" : Str) = some (.str q.kin) := lookup_get (i := 6) qkeys_nd rfl rfl
theorem fl_no (q : Qn) (t : Addr) {m : Str} (h : m ∉ qkeys) : (flds q t).lookup m = none := lookup_no h
theorem putF_snoc {f : Str} {v : V} : ∀ {fs : List (Str × V)}, f ∉ fs.map (·.1) → putF f v fs = fs ++ [(f, v)]
  | [], _ => rfl
  | (g, u) :: r, h => by
    have hg : ¬ g = f := fun e => h (by rw [e]; exact List.mem_cons_self)
    have hr : f ∉ r.map (·.1) := fun z => h (List.mem_cons_of_mem _ z)
    show (if g = f then _ else _) = _
    rw [if_neg hg, putF_snoc hr]
    rfl
/-- a question stands at p -/
structure QAt (C : Addr) (H : Hp) (p : Addr) (q : Qn) : Prop where
  ex : ∃ dx t, H p = some (.ins C dx (flds q t)) ∧ FTup H t (q.answers.map V.str)
  ok : q.Good
theorem QAt.ext {C : Addr} {H H' : Hp} {p : Addr} {q : Qn} (h : QAt C H p q) (e : Ext H H') : QAt C H' p q :=
  let ⟨dx, t, h1, h2⟩ := h.ex; ⟨⟨dx, t, e _ _ h1, h2.ext e⟩, h.ok⟩
end PK
namespace PK
open PySem PySem.Builtin.Str L2 K8 PyProof.Rows
/-! ### blanks -/
def NoEnd (L : List Nat) : Prop := L.head? ≠ some 32 ∧ L.getLast? ≠ some 32
theorem bl_goes (c : Nat) : (" " : Str).cps.contains c = decide (c = 32) := by
  show (#[32] : Array Nat).contains c = _
  by_cases h : c = 32 <;> simp [h]
theorem tw_none {goes : Nat → Bool} : ∀ {L : List Nat}, (∀ c, L.head? = some c → goes c = false) → L.takeWhile goes = []
  | [], _ => rfl
  | c :: r, h => by rw [List.takeWhile_cons, h c rfl]; rfl
theorem strip_fix {x : Str} (h : NoEnd x.cps.toList) : Txt.stripChars x " " = x := by
  unfold Txt.stripChars
  rw [PyProof.Rows.stripBy_eq]
  have g1 : stripLo (" " : Str).cps.contains true x = 0 := by
    simp only [stripLo, if_true]
    rw [tw_none fun c hc => ?_]
    · rfl
    · rw [bl_goes]
      exact decide_eq_false fun z => h.1 (by rw [hc, z])
  have g2 : stripHi (" " : Str).cps.contains true x 0 = x.length := by
    simp only [stripHi, if_true]
    rw [tw_none fun c hc => ?_]
    · rfl
    · rw [bl_goes]
      rw [List.drop_zero, List.head?_reverse] at hc
      exact decide_eq_false fun z => h.2 (by rw [hc, z])
  rw [g1, g2]
  exact strSub_whole x
theorem take_rev {α : Type} (p : α → Bool) (L : List α) : L.take (L.length - (L.reverse.takeWhile p).length) = (L.reverse.dropWhile p).reverse := by
  have e := List.takeWhile_append_dropWhile (p := p) (l := L.reverse)
  have e1 : L = (L.reverse.dropWhile p).reverse ++ (L.reverse.takeWhile p).reverse := by
    rw [← List.reverse_append, e, List.reverse_reverse]
  have hl : L.length - (L.reverse.takeWhile p).length = (L.reverse.dropWhile p).reverse.length := by
    have := congrArg List.length e1
    rw [List.length_append, List.length_reverse, List.length_reverse] at this
    rw [List.length_reverse]
    omega
  rw [hl]
  have e2 := List.take_left (l₁ := (L.reverse.dropWhile p).reverse) (l₂ := (L.reverse.takeWhile p).reverse)
  rw [← e1] at e2
  exact e2
theorem dw_head {α : Type} (p : α → Bool) : ∀ (L : List α) (c : α), (L.dropWhile p).head? = some c → p c = false
  | [], c, h => by cases h
  | a :: r, c, h => by
    rw [List.dropWhile_cons] at h
    by_cases ha : p a = true
    · rw [if_pos ha] at h
      exact dw_head p r c h
    · rw [if_neg ha] at h
      cases h
      simpa using ha
theorem tw_drop {α : Type} (p : α → Bool) : ∀ (L : List α), L.drop (L.takeWhile p).length = L.dropWhile p
  | [] => rfl
  | a :: r => by
    rw [List.takeWhile_cons, List.dropWhile_cons]
    by_cases ha : p a = true
    · rw [if_pos ha, if_pos ha]
      exact tw_drop p r
    · rw [if_neg ha, if_neg ha]
      rfl
theorem strip_list (x : Str) : (Txt.stripChars x " ").cps.toList = ((x.cps.toList.dropWhile fun c => decide (c = 32)).reverse.dropWhile fun c => decide (c = 32)).reverse := by
  have eg : (" " : Str).cps.contains = fun c => decide (c = 32) := funext bl_goes
  unfold Txt.stripChars
  rw [PyProof.Rows.stripBy_eq, eg]
  have e := TL.tl_strSub x (stripLo (fun c => decide (c = 32)) true x) (stripHi (fun c => decide (c = 32)) true x (stripLo (fun c => decide (c = 32)) true x))
  refine Eq.trans e ?_
  show (x.cps.toList.drop _).take _ = _
  simp only [stripLo, stripHi, if_true]
  rw [tw_drop, ← take_rev]
  congr 1
  have hl : x.cps.toList.length = x.length := by simp [Str.length]
  rw [← tw_drop, List.length_drop, hl]
  omega
theorem strip_noend (x : Str) : NoEnd (Txt.stripChars x " ").cps.toList := by
  rw [strip_list]
  constructor
  · intro h
    generalize hM : (x.cps.toList.dropWhile fun c => decide (c = 32)) = M at h
    have e := List.takeWhile_append_dropWhile (p := fun c => decide (c = 32)) (l := M.reverse)
    have e1 : M = (M.reverse.dropWhile fun c => decide (c = 32)).reverse ++ (M.reverse.takeWhile fun c => decide (c = 32)).reverse := by
      rw [← List.reverse_append, e, List.reverse_reverse]
    have h2 : M.head? = some 32 := by
      rw [e1, List.head?_append, h]
      rfl
    rw [← hM] at h2
    have := dw_head _ _ _ h2
    simp at this
  · intro h
    rw [List.getLast?_reverse] at h
    have := dw_head _ _ _ h
    simp at this
theorem strip_mem {x : Str} {c : Nat} (h : c ∈ (Txt.stripChars x " ").cps.toList) : c ∈ x.cps.toList := by
  rw [strip_list] at h
  have h1 := List.mem_reverse.mp h
  have h2 := (List.dropWhile_sublist _).mem h1
  have h3 := List.mem_reverse.mp h2
  exact (List.dropWhile_sublist _).mem h3
theorem clean_strip {x : Str} (h : ∀ c ∈ x.cps.toList, c ∈ sgnT.cps.toList) : Clean (Txt.stripChars x " ") :=
  ⟨fun c hc => h c (strip_mem hc), strip_fix (strip_noend x)⟩
/-! ### words -/
theorem spl32 (acc : List Nat) (c : Nat) (r : List Nat) : TL.spl [32] 0 acc (c :: r) = if c = 32 then acc :: TL.spl [32] 0 [] r else TL.spl [32] 0 (acc ++ [c]) r := by
  show (if TL.pre [32] (c :: r) = true then acc :: TL.spl [32] (([32] : List Nat).length - 1) [] r else TL.spl [32] 0 (acc ++ [c]) r) = _
  have e : TL.pre [32] (c :: r) = decide (c = 32) := by
    show ((c :: r).take 1 == [32]) = _
    by_cases h : c = 32 <;> simp [h]
  rw [e]
  by_cases h : c = 32 <;> simp [h]
theorem spl_sum : ∀ (L acc : List Nat), ((TL.spl [32] 0 acc L).map List.length).sum + (TL.spl [32] 0 acc L).length ≤ acc.length + L.length + 1
  | [], acc => by simp [TL.spl]
  | c :: r, acc => by
    rw [spl32]
    by_cases h : c = 32
    · rw [if_pos h]
      have := spl_sum r []
      simp at this ⊢
      omega
    · rw [if_neg h]
      have := spl_sum r (acc ++ [c])
      simp at this ⊢
      omega
theorem spl_in : ∀ (L acc : List Nat), 32 ∉ acc → ∀ p ∈ TL.spl [32] 0 acc L, 32 ∉ p ∧ ∀ c ∈ p, c ∈ acc ∨ c ∈ L
  | [], acc, ha, p, hp => by
    have e : p = acc := by simpa [TL.spl] using hp
    subst e
    exact ⟨ha, fun c hc => .inl hc⟩
  | c :: r, acc, ha, p, hp => by
    rw [spl32] at hp
    by_cases h : c = 32
    · rw [if_pos h] at hp
      rcases List.mem_cons.mp hp with e | hp
      · subst e
        exact ⟨ha, fun c hc => .inl hc⟩
      · obtain ⟨h1, h2⟩ := spl_in r [] (by simp) p hp
        exact ⟨h1, fun d hd => .inr (List.mem_cons_of_mem _ ((h2 d hd).resolve_left (by simp)))⟩
    · rw [if_neg h] at hp
      obtain ⟨h1, h2⟩ := spl_in r (acc ++ [c]) (by simp [ha]; exact fun z => h z.symm) p hp
      refine ⟨h1, fun d hd => ?_⟩
      rcases h2 d hd with z | z
      · rcases List.mem_append.mp z with z | z
        · exact .inl z
        · rw [List.mem_singleton.mp z]
          exact .inr List.mem_cons_self
      · exact .inr (List.mem_cons_of_mem _ z)
theorem split_tl (x : Str) : (Txt.split x " ").map TL.tl = TL.spl [32] 0 [] x.cps.toList := TL.split_spl x " " (by decide) (TL.kind_ok (by decide +kernel))
theorem len_tl' (x : Str) : x.length = (TL.tl x).length := by simp [TL.tl, Str.length]
theorem map_len (ys : List Str) : ys.map (·.length) = (ys.map TL.tl).map List.length := by
  rw [List.map_map]
  exact List.map_congr_left fun y _ => len_tl' y
theorem split_sum (x : Str) : ((Txt.split x " ").map (·.length)).sum + (Txt.split x " ").length ≤ x.length + 1 := by
  have h := spl_sum x.cps.toList []
  rw [← split_tl] at h
  rw [map_len]
  have e : x.cps.toList.length = x.length := by simp [Str.length]
  simpa [e] using h
/-- the words of x that are not empty -/
def wds (x : Str) : List Str := (Txt.split x " ").filter fun z => !decide (z = Str.empty)
theorem filter_sum (p : Str → Bool) (ys : List Str) : ((ys.filter p).map (·.length)).sum ≤ (ys.map (·.length)).sum := by
  induction ys with
  | nil => exact Nat.le_refl _
  | cons y ys ih =>
    rw [List.filter_cons]
    split
    · simp only [List.map_cons, List.sum_cons]; omega
    · simp only [List.map_cons, List.sum_cons]; omega
theorem wds_sum (x : Str) : ((wds x).map (·.length)).sum + (wds x).length ≤ x.length + 1 := by
  have h := split_sum x
  have h1 := filter_sum (fun z => !decide (z = Str.empty)) (Txt.split x " ")
  have h2 : (wds x).length ≤ (Txt.split x " ").length := List.length_filter_le _ _
  unfold wds at *
  omega
theorem wds_in {x y : Str} (h : y ∈ wds x) : y.cps.toList ≠ [] ∧ 32 ∉ y.cps.toList ∧ ∀ c ∈ y.cps.toList, c ∈ x.cps.toList := by
  obtain ⟨h1, h2⟩ := List.mem_filter.mp h
  have h3 : TL.tl y ∈ TL.spl [32] 0 [] x.cps.toList := by
    rw [← split_tl]
    exact List.mem_map_of_mem h1
  obtain ⟨h4, h5⟩ := spl_in _ _ (by simp) _ h3
  refine ⟨fun e => ?_, h4, fun c hc => (h5 c hc).resolve_left (by simp)⟩
  have : y = Str.empty := TL.ext_tl (by show y.cps.toList = _; rw [e]; rfl)
  simp [this] at h2
theorem join_ends : ∀ {ps : List (List Nat)}, (∀ p ∈ ps, p ≠ [] ∧ 32 ∉ p) → NoEnd (TL.joinL [32] ps)
  | [], _ => ⟨by simp [TL.joinL], by simp [TL.joinL]⟩
  | [p], h => by
    have h := (h p List.mem_cons_self).2
    exact ⟨fun e => h (List.mem_of_head? e), fun e => h (List.mem_of_getLast? e)⟩
  | p :: q :: r, h => by
    obtain ⟨h1, h2⟩ := h p List.mem_cons_self
    obtain ⟨g1, g2⟩ := join_ends (ps := q :: r) fun z hz => h z (List.mem_cons_of_mem _ hz)
    have hne : TL.joinL [32] (q :: r) ≠ [] := by
      have h1 := (h q (by simp)).1
      cases r with
      | nil => exact h1
      | cons a r =>
        show q ++ _ ≠ []
        simp [h1]
    show NoEnd (p ++ ([32] ++ TL.joinL [32] (q :: r)))
    constructor
    · intro e
      rw [List.head?_append] at e
      cases p with
      | nil => exact h1 rfl
      | cons a p =>
        simp at e
        exact h2 (by simp [e])
    · intro e
      rw [List.getLast?_append, List.getLast?_append] at e
      cases hz : (TL.joinL [32] (q :: r)).getLast? with
      | none => exact hne (List.getLast?_eq_none_iff.mp hz)
      | some z =>
        rw [hz] at e g2
        simp at e
        exact g2 (by rw [e])
theorem join_mem : ∀ {ps : List (List Nat)} {c : Nat}, c ∈ TL.joinL [32] ps → c = 32 ∨ ∃ p ∈ ps, c ∈ p
  | [], c, h => by simp [TL.joinL] at h
  | [p], c, h => .inr ⟨p, by simp, h⟩
  | p :: q :: r, c, h => by
    have h : c ∈ p ++ ([32] ++ TL.joinL [32] (q :: r)) := h
    rcases List.mem_append.mp h with h | h
    · exact .inr ⟨p, by simp, h⟩
    · rcases List.mem_append.mp h with h | h
      · exact .inl (List.mem_singleton.mp h)
      · rcases join_mem h with z | ⟨p, h1, h2⟩
        · exact .inl z
        · exact .inr ⟨p, List.mem_cons_of_mem _ h1, h2⟩
theorem join_len : ∀ (ps : List (List Nat)), (TL.joinL [32] ps).length ≤ (ps.map List.length).sum + ps.length
  | [] => Nat.le_refl _
  | [p] => by simp [TL.joinL]
  | p :: q :: r => by
    have := join_len (q :: r)
    show (p ++ ([32] ++ TL.joinL [32] (q :: r))).length ≤ _
    simp at this ⊢
    omega
def sq (x : Str) : Str := Txt.join " " (wds x)
theorem sq_tl (x : Str) : (sq x).cps.toList = TL.joinL [32] ((wds x).map TL.tl) := by
  unfold sq
  rw [TL.join_eq]
  exact TL.tl_join " " (wds x)
theorem sq_len (x : Str) : (sq x).length ≤ x.length + 1 := by
  have h1 := join_len ((wds x).map TL.tl)
  rw [← sq_tl, ← map_len, List.length_map] at h1
  have h2 := wds_sum x
  have h3 : (sq x).length = (sq x).cps.toList.length := by simp [Str.length]
  omega
theorem sq_clean {x : Str} (h : ∀ c ∈ x.cps.toList, c ∈ sgnT.cps.toList) : Clean (sq x) := by
  refine ⟨fun c hc => ?_, strip_fix ?_⟩
  · rw [sq_tl] at hc
    rcases join_mem hc with e | ⟨p, hp, hc⟩
    · rw [e]
      decide +kernel
    · obtain ⟨y, hy, rfl⟩ := List.mem_map.mp hp
      exact h c ((wds_in hy).2.2 c hc)
  · rw [sq_tl]
    refine join_ends fun p hp => ?_
    obtain ⟨y, hy, rfl⟩ := List.mem_map.mp hp
    exact ⟨(wds_in hy).1, (wds_in hy).2.1⟩
end PK
namespace PK
open PySem L2 K8
/-- the names of the top that are built in, and its constants -/
structure T0 (mg : Str → Option Value) : Prop where
  len : mg "len" = none
  isin : mg "isinstance" = none
  int : mg "int" = none
  bool : mg "bool" = none
  str : mg "str" = none
  tuple : mg "tuple" = none
  list : mg "list" = none
  all : mg "all" = none
  enum : mg "enumerate" = none
  range : mg "range" = none
  sorted : mg "sorted" = none
  sum : mg "sum" = none
  repr : mg "repr" = none
  letters : ∃ t, mg "LETTERS" = some (.str letT t)
  signs : ∃ t, mg "SIGNS" = some (.str sgnT t)
  lname : ∃ t, mg "LONGEST_NAME" = some (.int 8 t)
  ltext : ∃ t, mg "LONGEST_TEXT" = some (.int 30 t)
  fewest : ∃ t, mg "FEWEST" = some (.int 2 t)
  most : ∃ t, mg "MOST" = some (.int 6 t)
  topp : ∃ t, mg "TOP" = some (.int 9 t)


def spWhole : Sp := fun vs H Q _ => ∃ n lo hi, vs = [.int n, .int lo, .int hi] ∧ Q (.bl (decide (lo ≤ n) && decide (n ≤ hi))) H
def spNumber : Sp := fun vs H Q _ => ∃ n, vs = [.int n] ∧ Q (.bl true) H
def spName : Sp := fun vs H Q _ => ∃ x, vs = [.str x] ∧ NameOk x ∧ ∀ H', Ext H H' → Q (.bl true) H'
def spText : Sp := fun vs H Q _ => ∃ x, vs = [.str x] ∧ Clean x ∧ x.length ≤ 100000 ∧ ∀ H', Ext H H' → Q (.bl (decide (1 ≤ x.length) && decide (x.length ≤ 30))) H'
def spSq : Sp := fun vs H Q _ => ∃ x, vs = [.str x] ∧ x.length ≤ 100000 ∧ ∀ H', Ext H H' → Q (.str (sq x)) H'

theorem scWhole : FnScope ["thing", "least", "most"] ["thing", "least", "most"] (defScope sWhole) := ⟨rfl, rfl, rfl, by decide +kernel, rfl, by decide +kernel, by decide +kernel⟩
theorem scNumber : FnScope ["thing"] ["thing"] (defScope sNumber) := ⟨rfl, rfl, rfl, by decide +kernel, rfl, by decide +kernel, by decide +kernel⟩
theorem scName : FnScope ["thing", "sign"] ["thing"] (defScope sName) := ⟨rfl, rfl, rfl, by decide +kernel, rfl, by decide +kernel, by decide +kernel⟩
theorem scText : FnScope ["thing", "sign"] ["thing"] (defScope sText) := ⟨rfl, rfl, rfl, by decide +kernel, rfl, by decide +kernel, by decide +kernel⟩
theorem scSq : FnScope ["text", "word"] ["text"] (defScope sSqueezed) := ⟨rfl, rfl, rfl, by decide +kernel, rfl, by decide +kernel, by decide +kernel⟩

/-- a comprehension without a test -/
theorem yesT {σ : L2.St} {H : Hp} {Q1 Q2 : Hp → Prop} (h : Q1 H) : tYes σ H fun b H3 => if b = true then Q1 H3 else Q2 H3 := @iteT (Q1 H) (Q2 H) h
theorem decide_strV (x y : Str) : decide (V.str x = V.str y) = decide (x = y) := by
  by_cases h : x = y
  · rw [decide_eq_true h, decide_eq_true (by rw [h])]
  · rw [decide_eq_false h, decide_eq_false fun z => h (V.str.inj z)]
theorem mem_cps {x : Str} {i c : Nat} (h : x.cps[i]? = some c) : c ∈ x.cps.toList := by
  rw [← Array.getElem?_toList] at h
  exact List.mem_of_getElem? h
theorem size_lt {x : Str} {i n : Nat} (h : i < x.cps.size) (hx : x.length ≤ n) (hn : n ≤ sizeLine := by decide) : i < sizeLine := Nat.lt_of_lt_of_le h (Nat.le_trans hx hn)
section
variable {P : Program} {w : World} {K : PySem.W.Frag} {mg : Str → Option Value} {base : Heap}
theorem ok_whole {f : Addr} {fd : FuncData} (F : FunD K "is_whole" "is_whole" (defArgs sWhole) (defBody sWhole) (defScope sWhole) [.int 0, .int 9999] [] f fd) (T : T0 mg) : FnOk P w K mg base CX0 1 f fd ["thing", "least", "most"] spWhole := by
  refine F.ok scWhole (fun vs H Q E h => ?_) (fun cdv A outer s H vs Q E hr h => ?_)
  · obtain ⟨n, lo, hi, rfl, _⟩ := h
    rfl
  · obtain ⟨n, lo, hi, rfl, k⟩ := h
    refine ⟨_, pss_one (ps_ret (pe_and (pe_callB call_isi (by rfl) T.isin (by decide +kernel) (pa_cons (pv 0) (pa_cons (pe_bltn (v := .ty "int") (by rfl) T.int (by decide +kernel) rfl) pa_nil)))
      (pe_and (pe_not (pe_callB call_isi (by rfl) T.isin (by decide +kernel) (pa_cons (pv 0) (pa_cons (pe_bltn (v := .ty "bool") (by rfl) T.bool (by decide +kernel) rfl) pa_nil))))
        (pe_one (pe_chain op_le op_le (pv 1) (pv 0) (pv 2)))))), ?_⟩
    refine ⟨_, rfl, _, _, _, _, true, rfl, .ty _, .base (.int _), kit_ty (by decide +kernel), true, rfl, iteT ?_⟩
    refine ⟨_, rfl, _, _, _, _, false, rfl, .ty _, .base (.int _), kit_ty (by decide +kernel), false, rfl, true, rfl, iteT ?_⟩
    refine ⟨_, rfl, _, rfl, _, _, rfl, rfl, _, rfl, ?_⟩
    by_cases h1 : lo ≤ n
    · rw [decide_eq_true h1] at k ⊢
      exact iteT ⟨_, rfl, _, _, rfl, rfl, by simpa using k⟩
    · rw [decide_eq_false h1] at k ⊢
      exact iteF (by simpa using k)
theorem ok_number {f : Addr} {fd : FuncData} (F : Fun K "is_number" "is_number" sNumber f fd) (T : T0 mg) : FnOk P w K mg base CX0 1 f fd ["thing"] spNumber := by
  refine F.ok scNumber (fun vs H Q E h => ?_) (fun cdv A outer s H vs Q E hr h => ?_)
  · obtain ⟨n, rfl, _⟩ := h
    rfl
  · obtain ⟨n, rfl, k⟩ := h
    refine ⟨_, pss_one (ps_ret (pe_and (pe_callB call_isi (by rfl) T.isin (by decide +kernel) (pa_cons (pv 0) (pa_cons (pe_bltn (v := .ty "int") (by rfl) T.int (by decide +kernel) rfl) pa_nil)))
      (pe_one (pe_not (pe_callB call_isi (by rfl) T.isin (by decide +kernel) (pa_cons (pv 0) (pa_cons (pe_bltn (v := .ty "bool") (by rfl) T.bool (by decide +kernel) rfl) pa_nil)))))
        )), ?_⟩
    refine ⟨_, rfl, _, _, _, _, true, rfl, .ty _, .base (.int _), kit_ty (by decide +kernel), true, rfl, iteT ?_⟩
    exact ⟨_, rfl, _, _, _, _, false, rfl, .ty _, .base (.int _), kit_ty (by decide +kernel), false, rfl, k⟩
theorem ok_name {f : Addr} {fd : FuncData} (F : Fun K "is_name" "is_name" sName f fd) (T : T0 mg) : FnOk P w K mg base CX0 1 f fd ["thing"] spName := by
  obtain ⟨t1, e1⟩ := T.letters
  obtain ⟨t2, e2⟩ := T.lname
  refine F.ok scName (fun vs H Q E h => ?_) (fun cdv A outer s H vs Q E hr h => ?_)
  · obtain ⟨n, rfl, _⟩ := h
    rfl
  · obtain ⟨x, rfl, hx, k⟩ := h
    refine ⟨_, pss_cons (ps_if (PW.pt (pw_or (pt_not (pt_val (pe_callB call_isi (by rfl) T.isin (by decide +kernel) (pa_cons (pv 0) (pa_cons (pe_bltn (v := .ty "str") (by rfl) T.str (by decide +kernel) rfl) pa_nil)))))
        (pw_or1 (pt_not (pt_chain op_le op_le pe_int (pe_callB call_len_str (by rfl) T.len PySem.boot_len (pa_cons (pv 0) pa_nil)) (pe_glob (v := .int 8) rfl e2 ⟨_, rfl⟩))))))
        (pss_one (ps_ret pe_bl)) pss_nil)
      (pss_one (ps_ret (pe_callB (cr_all rfl) (by rfl) T.all (by decide +kernel) (pa_cons (pe_lc (own := [("sign", 1)]) (g := gName 1) (tt := tYes) rfl scName.nd (pi_str (pv 0)) (blkOk_by (N := ["thing", "sign"]) (sc := defScope sName) (by decide +kernel))
        (fun _ _ _ _ _ => pg_name (i := 1) scName.nd rfl (Or.inl rfl)) (fun _ _ _ _ _ => pts_nil) (fun _ _ _ _ _ => pe_cmpR op_in_sign (pv 1) (pe_glob (v := .str letT) rfl e1 ⟨_, rfl⟩) (by rfl))) pa_nil)))), ?_⟩
    refine ⟨_, rfl, _, _, _, _, true, rfl, .ty _, .base (.str _), kit_ty (by decide +kernel), true, rfl, iteF ?_⟩
    have hl := hx.lo
    have hh := hx.hi
    refine ⟨_, rfl, _, rfl, len1000 (by omega), _, _, rfl, rfl, _, rfl, ?_⟩
    rw [decide_eq_true (by omega : (1 : Int) ≤ (x.length : Nat))]
    refine iteT ⟨_, _, rfl, rfl, _, rfl, ?_⟩
    rw [decide_eq_true (by omega : ((x.length : Nat) : Int) ≤ 8)]
    refine iteF ?_
    refine ⟨_, rfl, x, rfl, fun D hD => ?_⟩
    refine lc_it walk_str (fun i H' => Ext H H' ∧ H' D = some (.lst ((List.replicate i true).map V.bl))) ⟨Ext.new Ext.rfl' hD _, upd_same⟩ (fun _ _ _ _ => True.intro) ?_ ?_
    · rintro i y H1 H2 hi ⟨e, hL⟩ ⟨rfl, c, hc, rfl⟩
      refine ⟨rfl, yesT ?_⟩
      refine ⟨_, rfl, c, letT, rfl, rfl, ?_⟩
      rw [decide_eq_true (hx.all c (mem_cps hc))]
      refine ⟨_, hL, ?_, e.new hD _, ?_⟩
      · rw [List.length_map, List.length_replicate]
        exact size_lt hi hh
      · rw [upd_same, ← rep_snoc, List.map_append]
        rfl
    · rintro H1 ⟨e, hL⟩
      refine ⟨D, _, rfl, SqL.of hL, ?_⟩
      rw [all_true]
      exact k _ e
theorem ok_text {f : Addr} {fd : FuncData} (F : Fun K "is_text" "is_text" sText f fd) (T : T0 mg) : FnOk P w K mg base CX0 1 f fd ["thing"] spText := by
  obtain ⟨t1, e1⟩ := T.signs
  obtain ⟨t2, e2⟩ := T.ltext
  refine F.ok scText (fun vs H Q E h => ?_) (fun cdv A outer s H vs Q E hr h => ?_)
  · obtain ⟨n, rfl, _⟩ := h
    rfl
  · obtain ⟨x, rfl, hx, hb, k⟩ := h
    refine ⟨_, pss_cons (ps_if (PW.pt (pw_or (pt_not (pt_val (pe_callB call_isi (by rfl) T.isin (by decide +kernel) (pa_cons (pv 0) (pa_cons (pe_bltn (v := .ty "str") (by rfl) T.str (by decide +kernel) rfl) pa_nil)))))
        (pw_or1 (pt_not (pt_chain op_le op_le pe_int (pe_callB call_len_str (by rfl) T.len PySem.boot_len (pa_cons (pv 0) pa_nil)) (pe_glob (v := .int 30) rfl e2 ⟨_, rfl⟩))))))
        (pss_one (ps_ret pe_bl)) pss_nil)
      (pss_one (ps_ret (pe_and (pe_callB (cr_all rfl) (by rfl) T.all (by decide +kernel) (pa_cons (pe_lc (own := [("sign", 1)]) (g := gName 1) (tt := tYes) rfl scText.nd (pi_str (pv 0)) (blkOk_by (N := ["thing", "sign"]) (sc := defScope sText) (by decide +kernel))
        (fun _ _ _ _ _ => pg_name (i := 1) scText.nd rfl (Or.inl rfl)) (fun _ _ _ _ _ => pts_nil) (fun _ _ _ _ _ => pe_cmpR op_in_sign (pv 1) (pe_glob (v := .str sgnT) rfl e1 ⟨_, rfl⟩) (by rfl))) pa_nil))
        (pe_one (pe_cmpR op_eq (pv 0) (pe_bm PySem.F.plainAttrs_str PySem.F.slot_str_strip PySem.F.type_str_strip mt_stripChars (pv 0) (pa_cons pe_str pa_nil)) (nomark _)))))), ?_⟩
    refine ⟨_, rfl, _, _, _, _, true, rfl, .ty _, .base (.str _), kit_ty (by decide +kernel), true, rfl, iteF ?_⟩
    have hlen : x.length ≤ sizeLine := Nat.le_trans hb (by decide)
    refine ⟨_, rfl, _, rfl, hlen, _, _, rfl, rfl, _, rfl, ?_⟩
    have kF : ∀ b, (decide (1 ≤ x.length) && decide (x.length ≤ 30)) = b → Q (V.bl b) H := fun b hb => hb ▸ k H Ext.rfl'
    by_cases h1 : (1 : Int) ≤ (x.length : Nat)
    · rw [decide_eq_true h1]
      refine iteT ⟨_, _, rfl, rfl, _, rfl, ?_⟩
      by_cases h2 : ((x.length : Nat) : Int) ≤ 30
      · rw [decide_eq_true h2]
        refine iteF ?_
        refine ⟨_, rfl, x, rfl, fun D hD => ?_⟩
        refine lc_it walk_str (fun i H' => Ext H H' ∧ H' D = some (.lst ((List.replicate i true).map V.bl))) ⟨Ext.new Ext.rfl' hD _, upd_same⟩ (fun _ _ _ _ => True.intro) ?_ ?_
        · rintro i y H1 H2 hi ⟨e, hL⟩ ⟨rfl, c, hc, rfl⟩
          refine ⟨rfl, yesT ?_⟩
          refine ⟨_, rfl, c, sgnT, rfl, rfl, ?_⟩
          rw [decide_eq_true (hx.all c (mem_cps hc))]
          refine ⟨_, hL, ?_, e.new hD _, ?_⟩
          · rw [List.length_map, List.length_replicate]
            exact size_lt hi hb
          · rw [upd_same, ← rep_snoc, List.map_append]
            rfl
        · rintro H1 ⟨e, hL⟩
          refine ⟨D, _, rfl, SqL.of hL, ?_⟩
          rw [all_true]
          refine ⟨true, rfl, iteT ?_⟩
          refine ⟨_, rfl, _, rfl, rfl, x, " ", rfl, rfl, hlen, ?_⟩
          rw [hx.ends]
          refine ⟨rfl, ?_⟩
          have z := k _ e
          rw [decide_eq_true (by omega : 1 ≤ x.length), decide_eq_true (by omega : x.length ≤ 30)] at z
          rw [decide_eq_true (rfl : V.str x = V.str x)]
          exact z
      · rw [decide_eq_false h2]
        exact iteT (kF false (by simp; omega))
    · rw [decide_eq_false h1]
      exact iteF ⟨false, rfl, iteT (kF false (by simp; omega))⟩
theorem ok_sq {f : Addr} {fd : FuncData} (F : Fun K "squeezed" "squeezed" sSqueezed f fd) (T : T0 mg) : FnOk P w K mg base CX0 1 f fd ["text"] spSq := by
  refine F.ok scSq (fun vs H Q E h => ?_) (fun cdv A outer s H vs Q E hr h => ?_)
  · obtain ⟨n, rfl, _⟩ := h
    rfl
  · obtain ⟨x, rfl, hb, k⟩ := h
    refine ⟨_, pss_cons (ps_if (pt_not (pt_val (pe_callB call_isi (by rfl) T.isin (by decide +kernel) (pa_cons (pv 0) (pa_cons (pe_bltn (v := .ty "str") (by rfl) T.str (by decide +kernel) rfl) pa_nil))))) (pss_one ps_never) pss_nil)
      (pss_one (ps_ret (pe_join pe_str (pe_lc (own := [("word", 1)]) (g := gName 1) rfl scSq.nd (pi_list (pe_split (pv 0) pe_str)) (blkOk_by (N := ["text", "word"]) (sc := defScope sSqueezed) (by decide +kernel))
        (fun _ _ _ _ _ => pg_name (i := 1) scSq.nd rfl (Or.inl rfl)) (fun _ _ _ _ _ => pts_one (pt_cmpR op_ne (pv 1) pe_str (nomark _))) (fun _ _ _ _ _ => pv 1))))), ?_⟩
    refine ⟨_, rfl, _, _, _, _, true, rfl, .ty _, .base (.str _), kit_ty (by decide +kernel), true, rfl, iteF ?_⟩
    have hlen : x.length + 2 ≤ sizeLine := Nat.le_trans (Nat.add_le_add_right hb 2) (by decide)
    refine ⟨⟨_, rfl⟩, _, rfl, ⟨_, rfl⟩, x, " ", rfl, rfl, rfl, hlen, fun S hS => ?_⟩
    refine ⟨S, rfl, ⟨_, SqL.of upd_same⟩, fun D hD => ?_⟩
    have nSD : S ≠ D := fun q => by
      rw [← q, upd_same] at hD
      cases hD
    have hD0 : H D = none := by
      rw [upd_ne nSD.symm] at hD
      exact hD
    refine lc_list (K := K) (a := S) (xs := (Txt.split x " ").map V.str) (fun i H' => Ext H H' ∧ H' S = some (.lst ((Txt.split x " ").map V.str)) ∧ H' D = some (.lst ((((Txt.split x " ").take i).filter fun z => !decide (z = Str.empty)).map V.str)))
      ⟨Ext.new (Ext.new Ext.rfl' hS _) hD0 _, by rw [upd_ne nSD, upd_same], upd_same⟩ (fun _ _ _ h => SqL.of h.2.1) ?_ ?_
    · rintro i y H1 hi ⟨e, hL, hDD⟩
      rw [List.getElem?_map] at hi
      obtain ⟨z, hz, rfl⟩ := Option.map_eq_some_iff.mp hi
      have et : (Txt.split x " ").take (i + 1) = (Txt.split x " ").take i ++ [z] := by
        rw [List.take_add_one, hz]
        rfl
      refine ⟨rfl, _, rfl, rfl, _, rfl, ?_⟩
      have e0 : Str.ofString "" = Str.empty := by decide +kernel
      rw [decide_strV, e0]
      rw [et, List.filter_append]
      by_cases hz0 : z = Str.empty
      · rw [decide_eq_true hz0]
        refine iteF ⟨e, hL, ?_⟩
        rw [List.filter_cons, decide_eq_true hz0]
        simpa using hDD
      · rw [decide_eq_false hz0]
        refine iteT ⟨_, rfl, _, hDD, ?_, e.new hD0 _, by rw [upd_ne nSD]; exact hL, ?_⟩
        · rw [List.length_map]
          have h1 := List.length_filter_le (fun z => !decide (z = Str.empty)) ((Txt.split x " ").take i)
          have h2 := split_sum x
          have h3 : ((Txt.split x " ").take i).length ≤ (Txt.split x " ").length := by simp; omega
          have h4 : 100001 < sizeLine := by decide
          omega
        · rw [upd_same, List.filter_cons, decide_eq_false hz0, List.map_append]
          rfl
    · rintro H1 ⟨e, hL, hDD⟩
      rw [List.length_map, List.take_length] at hDD
      refine ⟨" ", D, wds x, rfl, rfl, .inl (SqL.of hDD), ?_, k _ e⟩
      have := wds_sum x
      have h1 : (" " : Str).length = 1 := rfl
      rw [h1]
      omega
end
end PK
namespace PK
open PySem L2 K8
/-! ### lists that comprehensions build -/
def lv (f : Nat → V) (i : Nat) : List V := (List.range i).map f
theorem lv_succ (f : Nat → V) (i : Nat) : lv f (i + 1) = lv f i ++ [f i] := by
  unfold lv
  rw [List.range_succ, List.map_append]
  rfl
theorem lv_len (f : Nat → V) (i : Nat) : (lv f i).length = i := by simp [lv]
theorem lv_step {f : Nat → V} {i : Nat} {H : Hp} {D : Addr} {v : V} (h : v = f i) : upd H D (.lst (lv f i ++ [v])) D = some (.lst (lv f (i + 1))) := by
  rw [upd_same, lv_succ, h]
theorem lv_bl (g : Nat → Bool) (n : Nat) : lv (fun i => .bl (g i)) n = ((List.range n).map g).map V.bl := by
  unfold lv
  rw [List.map_map]
  rfl
theorem lv_of {α : Type} (xs : List α) (d : α) (F : α → V) : lv (fun i => F (xs.getD i d)) xs.length = xs.map F := by
  refine List.ext_getElem? fun i => ?_
  unfold lv
  rw [List.getElem?_map, List.getElem?_map]
  by_cases h : i < xs.length
  · simp [h]
  · simp [h]
theorem range_all {α : Type} (xs : List α) (d : α) (p : α → Bool) : ((List.range xs.length).map fun i => p (xs.getD i d)).all id = xs.all p := by
  rw [Bool.eq_iff_iff]
  simp only [List.all_map, List.all_eq_true, List.mem_range, Function.comp, id]
  constructor
  · intro h x hx
    obtain ⟨i, hi, rfl⟩ := List.mem_iff_getElem.mp hx
    have := h i hi
    simpa [hi] using this
  · intro h i hi
    have : xs.getD i d = xs[i] := by simp [hi]
    rw [this]
    exact h _ (List.getElem_mem hi)
theorem decide_intV (x y : Int) : decide (V.int x = V.int y) = decide (x = y) := by
  by_cases h : x = y
  · rw [decide_eq_true h, decide_eq_true (by rw [h])]
  · rw [decide_eq_false h, decide_eq_false fun z => h (V.int.inj z)]
/-! ### answers -/
def lenOk (x : Str) : Bool := decide (1 ≤ x.length) && decide (x.length ≤ 30)
theorem idx_at {ys : List Str} {z : Str} (h : z ∈ ys) : ys[ys.idxOf z]? = some z ∧ ∀ m, m < ys.idxOf z → ys[m]? ≠ some z := by
  induction ys with
  | nil => cases h
  | cons y ys ih =>
    rw [List.idxOf_cons]
    by_cases e : y = z
    · subst e
      simp
    · have hb : (y == z) = false := by simpa using e
      rw [hb]
      rcases List.mem_cons.mp h with e2 | h2
      · exact absurd e2.symm e
      · obtain ⟨h3, h4⟩ := ih h2
        simp only [cond_false]
        refine ⟨by simpa using h3, fun m hm => ?_⟩
        cases m with
        | zero => simpa using e
        | succ m => simpa using h4 m (by omega)
theorem nodup_idx (ys : List Str) (d : Str) : ((List.range ys.length).map fun i => decide ((ys.idxOf (ys.getD i d) : Int) = (i : Nat))).all id = decide ys.Nodup := by
  rw [Bool.eq_iff_iff]
  simp only [List.all_map, List.all_eq_true, List.mem_range, Function.comp, id, decide_eq_true_eq]
  constructor
  · intro h
    refine List.pairwise_iff_getElem.mpr fun i j hi hj hij e3 => ?_
    have h1 := h i hi
    have h2 := h j hj
    have e1 : ys.getD i d = ys[i] := by simp [hi]
    have e2 : ys.getD j d = ys[j] := by simp [hj]
    rw [e1] at h1
    rw [e2, ← e3] at h2
    omega
  · intro h i hi
    have e1 : ys.getD i d = ys[i] := by simp [hi]
    rw [e1]
    have := List.Nodup.idxOf_getElem h i hi
    omega
def spAns : Sp := fun vs H Q _ => ∃ (t : Addr) (ys : List Str), vs = [.ref t] ∧ FTup H t (ys.map V.str) ∧ 2 ≤ ys.length ∧ ys.length ≤ 6 ∧ (∀ y ∈ ys, Clean y ∧ y.length ≤ 100000) ∧ ∀ H', Ext H H' → Q (.bl (ys.all lenOk && decide ys.Nodup)) H'
/-- t.index(x) -/
def rTIx (K : PySem.W.Frag) : V → List V → Hp → VK → Prop := fun x xs H Q => ∃ p, ∃ ys : List Str, ∃ z j, x = .ref p ∧ xs = [.str z] ∧ SqT K H p (ys.map V.str) ∧ ys[j]? = some z ∧ (∀ m, m < j → ys[m]? ≠ some z) ∧ Q (.int (j : Nat)) H
theorem mt_tix {X : Cx} : MtR X "tuple.index" (rTIx X.K) := mt_tup_index
theorem scAns : FnScope ["thing", "one", "at"] ["thing"] (defScope sAnswers) := ⟨rfl, rfl, rfl, by decide +kernel, rfl, by decide +kernel, by decide +kernel⟩
section
variable {P : Program} {w : World} {K : PySem.W.Frag} {mg : Str → Option Value} {base : Heap}
theorem ok_answers {f f1 : Addr} {fd fd1 : FuncData} (F : Fun K "are_answers" "are_answers" sAnswers f fd) (T : T0 mg) (G1 : Callee P w K mg base CX0 1 "is_text" f1 fd1 ["thing"] spText) : FnOk P w K mg base CX0 2 f fd ["thing"] spAns := by
  obtain ⟨t1, e1⟩ := T.fewest
  obtain ⟨t2, e2⟩ := T.most
  refine F.ok scAns (fun vs H Q E h => ?_) (fun cdv A outer s H vs Q E hr h => ?_)
  · obtain ⟨n, ys, rfl, _⟩ := h
    rfl
  · obtain ⟨t, ys, rfl, ht, h2, h6, hy, k⟩ := h
    refine ⟨_, pss_cons (ps_if (PW.pt (pw_or (pt_not (pt_val (pe_callB call_isi (by rfl) T.isin (by decide +kernel) (pa_cons (pv 0) (pa_cons (pe_bltn (v := .ty "tuple") (by rfl) T.tuple (by decide +kernel) rfl) pa_nil)))))
        (pw_or (pt_not (pt_chain op_le op_le (pe_glob (v := .int 2) rfl e1 ⟨_, rfl⟩) (pe_callB call_len_seq (by rfl) T.len PySem.boot_len (pa_cons (pv 0) pa_nil)) (pe_glob (v := .int 6) rfl e2 ⟨_, rfl⟩)))
          (pw_or1 (pt_not (pt_val (pe_callB (cr_all rfl) (by rfl) T.all (by decide +kernel) (pa_cons (pe_lc (own := [("one", 1)]) (g := gName 1) (tt := tYes) rfl scAns.nd (pi_tup (pv 0)) (blkOk_by (N := ["thing", "one", "at"]) (sc := defScope sAnswers) (by decide +kernel))
            (fun _ _ _ _ _ => pg_name (i := 1) scAns.nd rfl (Or.inl rfl)) (fun _ _ _ _ _ => pts_nil) (fun _ _ _ _ _ => pe_call G1.ok hr (by rfl) G1.mg G1.kp G1.bd .nil pass0 (pa_cons (pv 1) pa_nil))) pa_nil))))))))
        (pss_one (ps_ret pe_bl)) pss_nil)
      (pss_one (ps_ret (pe_callB (cr_all rfl) (by rfl) T.all (by decide +kernel) (pa_cons (pe_lc (own := [("at", 2), ("one", 1)]) (g := gTup K 2 (gCons (gName 2) (gCons (gName 1) gNil))) (tt := tYes) (te := tOp rEq (tBMF (rTIx K) (tVar 0) (tCons (tVar 1) tNil)) (tVar 2)) rfl scAns.nd (pi_enumT (by rfl) T.enum (pa_cons (pv 0) pa_nil)) (blkOk_by (N := ["thing", "one", "at"]) (sc := defScope sAnswers) (by decide +kernel))
        (fun _ _ _ _ _ => pg_tup rfl (pgs_cons (pg_name (i := 2) scAns.nd rfl (Or.inl rfl)) (pgs_cons (pg_name (i := 1) scAns.nd rfl (Or.inl rfl)) pgs_nil))) (fun _ _ _ _ _ => pts_nil)
          (fun _ _ _ _ _ => pe_cmpR op_eq (pe_bmF PySem.F.slot_tuple_index PySem.F.type_tuple_index mt_tix (pv 0) (pa_cons (pv 1) pa_nil)) (pv 2) (nomark _))) pa_nil)))), ?_⟩
    refine ⟨_, rfl, _, _, _, _, true, rfl, .ty _, .fTuple ht.choose_spec.2, kit_ty (by decide +kernel), true, rfl, iteF ?_⟩
    have hlen : (ys.map V.str).length = ys.length := List.length_map ..
    refine ⟨_, rfl, t, _, rfl, .inr ht.sq, _, _, rfl, rfl, _, rfl, ?_⟩
    rw [decide_eq_true (by omega : (2 : Int) ≤ ((ys.map V.str).length : Nat))]
    refine iteT ⟨_, _, rfl, rfl, _, rfl, ?_⟩
    rw [decide_eq_true (by omega : (((ys.map V.str).length : Nat) : Int) ≤ 6)]
    refine iteF ?_
    refine ⟨_, rfl, t, rfl, ⟨_, ht.sq⟩, fun D hD => ?_⟩
    refine lc_tup (K := K) (a := t) (xs := ys.map V.str) (fun i H' => Ext H H' ∧ H' D = some (.lst (lv (fun i => .bl (lenOk (ys.getD i Str.empty))) i))) ⟨Ext.new Ext.rfl' hD _, upd_same⟩ (fun _ _ _ h => (ht.ext h.1).sq) ?_ ?_
    · rintro i y H1 hi ⟨e, hL⟩
      rw [List.getElem?_map] at hi
      obtain ⟨z, hz, rfl⟩ := Option.map_eq_some_iff.mp hi
      obtain ⟨c1, c2⟩ := hy z (List.mem_of_getElem? hz)
      refine ⟨rfl, yesT ?_⟩
      refine ⟨_, rfl, z, rfl, c1, c2, fun H2 e2 => ?_⟩
      refine ⟨_, e2 _ _ hL, ?_, (e.trans e2).new hD _, lv_step ?_⟩
      · rw [lv_len]
        have := (List.getElem?_eq_some_iff.mp hz).1
        exact Nat.lt_of_lt_of_le this (len1000 (by omega))
      · rw [getD_of hz]
        rfl
    · rintro H1 ⟨e, hL⟩
      rw [hlen, lv_bl] at hL
      refine ⟨D, _, rfl, SqL.of hL, ?_⟩
      rw [range_all]
      refine ⟨_, rfl, ?_⟩
      cases ha : ys.all lenOk with
      | false =>
        refine iteT ?_
        have := k _ e
        rw [ha] at this
        exact this
      | true =>
        refine iteF ?_
        have ht1 := ht.ext e
        refine ⟨_, rfl, t, _, rfl, ht1.sq, fun D2 hD2 => ?_⟩
        refine lc_it walk_enumT (fun i H' => Ext H1 H' ∧ H' D2 = some (.lst (lv (fun i => .bl (decide ((ys.idxOf (ys.getD i Str.empty) : Int) = (i : Nat)))) i))) ⟨Ext.new Ext.rfl' hD2 _, upd_same⟩ (fun _ _ _ h => (ht1.ext h.1).sq) ?_ ?_
        · rintro i v H2 H3 hi ⟨e2, hL2⟩ ⟨p, x, y, rfl, hp, rfl, hx, hy2⟩
          cases hx
          have hy2 : (ys.map V.str)[i]? = some y := hy2
          rw [List.getElem?_map] at hy2
          obtain ⟨z, hz, rfl⟩ := Option.map_eq_some_iff.mp hy2
          have e3 : Ext H1 (upd H2 p (.tup [.int (i : Nat), .str z])) := e2.trans (Ext.new Ext.rfl' hp _)
          have np : D2 ≠ p := ne_of_none hL2 hp
          refine ⟨p, _, rfl, SqT.of upd_same, rfl, _, _, rfl, _, _, rfl, rfl, ?_⟩
          refine ⟨rfl, yesT ?_⟩
          obtain ⟨g1, g2⟩ := idx_at (List.mem_of_getElem? hz)
          refine ⟨_, rfl, ⟨t, _, rfl, ht1.ext e3⟩, _, rfl, t, ys, z, ys.idxOf z, rfl, rfl, (ht1.ext e3).sq, g1, g2, _, rfl, rfl, ?_⟩
          refine ⟨_, (upd_ne np).trans hL2, ?_, e3.new hD2 _, lv_step ?_⟩
          · rw [lv_len]
            rw [hlen] at hi
            exact Nat.lt_of_lt_of_le hi (len1000 (by omega))
          · rw [getD_of hz, decide_intV]
        · rintro H2 ⟨e2, hL2⟩
          rw [hlen, lv_bl] at hL2
          refine ⟨D2, _, rfl, SqL.of hL2, ?_⟩
          rw [nodup_idx]
          have := k _ (e.trans e2)
          rw [ha] at this
          exact this
end
end PK
namespace PK
open PySem L2 K8
/-! ### the class Question, its exception -/
structure TQ (K : PySem.W.Frag) (mg : Str → Option Value) (C : Addr) : Prop where
  cl : Cls K C
  n1 : NoAttr K C "name"
  n2 : NoAttr K C "matter"
  n3 : NoAttr K C "answers"
  n4 : NoAttr K C "right"
  n5 : NoAttr K C "toil"
  n6 : NoAttr K C "marks"
  n7 : NoAttr K C "kin"
  mgC : mg "Question" = some (.ref C)
  cls : PySem.W.findIn K (.ref C) "__class__" = some (some (.builtin "object.__class__"))
  spe : PySem.W.specialIn K (.builtin "object.__class__") "__get__" = some (some (.builtin "getset_descriptor.__get__"))
  tak : PySem.W.takesIn K (.builtin "object.__class__") = some true
  obj : PySem.W.mroIn K C (.type "object") = some true
  own : PySem.W.kitOne K (.ref C) (.ref C) = some true
structure TB (K : PySem.W.Frag) (mg : Str → Option Value) (B fI : Addr) : Prop where
  oex : OexC K B
  iC : PySem.W.findIn K (.ref B) "__init__" = some (some (.ref fI))
  tI : PySem.W.typeIn K (.ref fI) = some (.type "function")
  pa : PySem.W.findIn K (.ref B) "part" = some none
  mgB : mg "BadQuestion" = some (.ref B)
  ve : mg "ValueError" = none
  vV : PySem.W.findCls K (.type "ValueError") (.type "type") "__init__" = some (.val (.builtin "ValueError.__init__"))

def spBad (B : Addr) : Sp := fun vs H Q _ => ∃ a v, vs = [.ref a, v] ∧ H a = some (exo a B none) ∧ ∀ dx, H dx = none → dx ≠ a → Q .non (upd (upd H dx (exd dx [("part", v)])) a (exo a B (some dx)))
theorem scBad : FnScope ["self", "part"] ["self", "part"] (defScope sBadI) := ⟨rfl, rfl, rfl, by decide +kernel, rfl, by decide +kernel, by decide +kernel⟩
def spOf : Sp := fun vs H Q _ => ∃ x, vs = [.str x] ∧ (x = Str.empty ∨ NameOk x) ∧ ∀ H', Ext H H' → Q (.bl true) H'
theorem scOf : FnScope ["kin"] ["kin"] (defScope sOf) := ⟨rfl, rfl, rfl, by decide +kernel, rfl, by decide +kernel, by decide +kernel⟩
theorem scInit : FnScope ["self", "name", "matter", "answers", "right", "toil", "marks", "kin"] ["self", "name", "matter", "answers", "right", "toil", "marks", "kin"] (defScope sInit) := ⟨rfl, rfl, rfl, by decide +kernel, rfl, by decide +kernel, by decide +kernel⟩
/-- a question whose answers may be too long, too short, or alike -/
structure Qn.Near (q : Qn) : Prop where
  nm : NameOk q.name
  mt : NameOk q.matter
  lo : 2 ≤ q.answers.length
  hi : q.answers.length ≤ 6
  cl : ∀ x ∈ q.answers, Clean x ∧ x.length ≤ 100000
  r0 : 0 ≤ q.right
  r1 : q.right < q.answers.length
  t0 : 1 ≤ q.toil
  t1 : q.toil ≤ 9
  m0 : 1 ≤ q.marks
  m1 : q.marks ≤ 9
  kn : q.kin = Str.empty ∨ NameOk q.kin
def Qn.fits (q : Qn) : Bool := q.answers.all lenOk && decide q.answers.Nodup
theorem Qn.Near.good {q : Qn} (h : q.Near) (f : q.fits = true) : q.Good := by
  unfold Qn.fits at f
  rw [Bool.and_eq_true, List.all_eq_true, decide_eq_true_eq] at f
  refine ⟨h.nm, h.mt, h.lo, h.hi, fun x hx => ⟨(h.cl x hx).1, ?_, ?_⟩, f.2, h.r0, h.r1, h.t0, h.t1, h.m0, h.m1, h.kn⟩
  · have := f.1 x hx
    unfold lenOk at this
    simp at this
    exact this.1
  · have := f.1 x hx
    unfold lenOk at this
    simp at this
    exact this.2
theorem Qn.Good.near {q : Qn} (h : q.Good) : q.Near ∧ q.fits = true := by
  refine ⟨⟨h.nm, h.mt, h.lo, h.hi, fun x hx => ⟨(h.tx x hx).cl, ?_⟩, h.r0, h.r1, h.t0, h.t1, h.m0, h.m1, h.kn⟩, ?_⟩
  · have := (h.tx x hx).hi
    omega
  · unfold Qn.fits
    rw [Bool.and_eq_true, List.all_eq_true, decide_eq_true_eq]
    refine ⟨fun x hx => ?_, h.nd⟩
    have h1 := (h.tx x hx).lo
    have h2 := (h.tx x hx).hi
    unfold lenOk
    simp [h1, h2]
/-- the arguments of a question -/
def qargs (q : Qn) (t : Addr) : List V := [.str q.name, .str q.matter, .ref t, .int q.right, .int q.toil, .int q.marks, .str q.kin]
def spInit (C B : Addr) : Sp := fun vs H Q E => ∃ (p dx t : Addr) (q : Qn), vs = .ref p :: qargs q t ∧ H p = some (.ins C dx []) ∧ FTup H t (q.answers.map V.str) ∧ q.Near ∧
  (q.fits = true → ∀ H', (∀ b o, b ≠ p → H b = some o → H' b = some o) → H' p = some (.ins C dx (flds q t)) → Q .non H') ∧
  (q.fits = false → ∀ d H', Ext H H' → H' d = some (.xd [("part", .str "answers")]) → E (.ref B) (some d) H')
theorem putF_len (f : Str) (v : V) : ∀ fs : List (Str × V), (putF f v fs).length ≤ fs.length + 1
  | [] => Nat.le_refl _
  | (g, u) :: r => by
    show (if g = f then _ else _ : List (Str × V)).length ≤ _
    split
    · simp
    · have := putF_len f v r
      simp only [List.length_cons]
      omega
theorem putF_snocK {f : Str} {v : V} {fs : List (Str × V)} (ks : List Str) (h : f ∉ ks) (e : fs.map (·.1) = ks) : putF f v fs = fs ++ [(f, v)] := putF_snoc (by rw [e]; exact h)
theorem few {f : Str} {v : V} {fs : List (Str × V)} {n : Nat} (h : fs.length ≤ n) : (putF f v fs).length ≤ n + 1 := Nat.le_trans (putF_len f v fs) (Nat.succ_le_succ h)
theorem fields_all (q : Qn) (t : Addr) : putF "kin" (.str q.kin) (putF "marks" (.int q.marks) (putF "toil" (.int q.toil) (putF "right" (.int q.right) (putF "answers" (.ref t) (putF "matter" (.str q.matter) (putF "name" (.str q.name) [])))))) = flds q t := by
  rw [putF_snocK (f := "name") [] (by decide +kernel) rfl]
  rw [putF_snocK (f := "matter") ["name"] (by decide +kernel) rfl]
  rw [putF_snocK (f := "answers") ["name", "matter"] (by decide +kernel) rfl]
  rw [putF_snocK (f := "right") ["name", "matter", "answers"] (by decide +kernel) rfl]
  rw [putF_snocK (f := "toil") ["name", "matter", "answers", "right"] (by decide +kernel) rfl]
  rw [putF_snocK (f := "marks") ["name", "matter", "answers", "right", "toil"] (by decide +kernel) rfl]
  rw [putF_snocK (f := "kin") ["name", "matter", "answers", "right", "toil", "marks"] (by decide +kernel) rfl]
  rfl
section
variable {P : Program} {w : World} {K : PySem.W.Frag} {mg : Str → Option Value} {base : Heap} {B C fI : Addr}
theorem ok_bad {f : Addr} {fd : FuncData} (F : Fun K "__init__" "BadQuestion.__init__" sBadI f fd) (T : TB K mg B fI) : FnOk P w K mg base CX0 1 f fd ["self", "part"] (spBad B) := by
  refine F.ok scBad (fun vs H Q E h => ?_) (fun cdv A outer s H vs Q E hr h => ?_)
  · obtain ⟨a, v, rfl, _⟩ := h
    rfl
  · obtain ⟨a, v, rfl, ha, k⟩ := h
    refine ⟨_, pss_cons (ps_expr (pe_veinit (by rfl) T.ve T.vV (pa_cons (pv 0) (pa_cons (pv 1) pa_nil)))) (pss_one (ps_ost (pv 0) (pv 1))), ?_⟩
    refine ⟨_, rfl, _, rfl, a, B, _, rfl, by show 1 ≤ 1000; decide, T.oex, ha, ?_⟩
    exact ⟨_, rfl, _, rfl, a, B, rfl, T.oex, T.pa, .inl ⟨ha, fun dx h1 h2 => k dx h1 h2⟩⟩
theorem ok_of {f f1 : Addr} {fd fd1 : FuncData} (F : Fun K "is_of" "is_of" sOf f fd) (T : T0 mg) (G1 : Callee P w K mg base CX0 1 "is_name" f1 fd1 ["thing"] spName) : FnOk P w K mg base CX0 2 f fd ["kin"] spOf := by
  refine F.ok scOf (fun vs H Q E h => ?_) (fun cdv A outer s H vs Q E hr h => ?_)
  · obtain ⟨x, rfl, _⟩ := h
    rfl
  · obtain ⟨x, rfl, hx, k⟩ := h
    refine ⟨_, pss_one (ps_ret (pe_or (pe_and (pe_callB call_isi (by rfl) T.isin (by decide +kernel) (pa_cons (pv 0) (pa_cons (pe_bltn (v := .ty "str") (by rfl) T.str (by decide +kernel) rfl) pa_nil)))
      (pe_one (pe_cmpR op_eq (pv 0) pe_str (nomark _)))) (pe_one (pe_call G1.ok hr (by rfl) G1.mg G1.kp G1.bd .nil pass0 (pa_cons (pv 0) pa_nil))))), ?_⟩
    refine ⟨_, rfl, _, _, _, _, true, rfl, .ty _, .base (.str _), kit_ty (by decide +kernel), true, rfl, iteT ?_⟩
    refine ⟨_, rfl, rfl, ?_⟩
    have e0 : Str.ofString "" = Str.empty := by decide +kernel
    rw [decide_strV, e0]
    refine ⟨_, rfl, ?_⟩
    by_cases h0 : x = Str.empty
    · rw [decide_eq_true h0]
      exact iteT (k _ Ext.rfl')
    · rw [decide_eq_false h0]
      exact iteF ⟨_, rfl, x, rfl, hx.resolve_left h0, k⟩
/-- is_whole with its keywords -/
structure WCallee (P : Program) (w : World) (K : PySem.W.Frag) (mg : Str → Option Value) (base : Heap) (f : Addr) (fd : FuncData) : Prop where
  ok : FnOk P w K mg base CX0 1 f fd ["thing", "least", "most"] spWhole
  mg : mg "is_whole" = some (.ref f)
  kp : PySem.W.keepIn K (.ref f) = true
  k1 : ∃ g, KBn K fd ["thing", "least", "most"] 1 ["most"] g (fun vs zs => vs ++ V.int 0 :: zs)
  k2 : ∃ g, KBn K fd ["thing", "least", "most"] 1 ["least", "most"] g (fun vs zs => vs ++ zs)
theorem ok_init {f f1 f2 f3 f4 f5 fX : Addr} {fd fd1 fd2 fd3 fd4 fd5 : FuncData} {dvs : List V} (F : FunD K "__init__" "Question.__init__" (defArgs sInit) (defBody sInit) (defScope sInit) dvs [] f fd) (T : T0 mg) (TC : TQ K mg C) (TBB : TB K mg B f5)
    (G1 : Callee P w K mg base CX0 1 "is_name" f1 fd1 ["thing"] spName) (G2 : Callee P w K mg base CX0 2 "are_answers" f2 fd2 ["thing"] spAns) (G3 : WCallee P w K mg base f3 fd3) (G4 : Callee P w K mg base CX0 2 "is_of" f4 fd4 ["kin"] spOf)
    (G5 : FnOk P w K mg base CX0 1 f5 fd5 ["self", "part"] (spBad B)) (b5 : Binds K fd5 ["self", "part"] []) : FnOk P w K mg base (L2.CX P w) 3 f fd ["self", "name", "matter", "answers", "right", "toil", "marks", "kin"] (spInit C B) := by
  obtain ⟨g1, k1⟩ := G3.k1
  obtain ⟨g2, k2⟩ := G3.k2
  obtain ⟨t9, e9⟩ := T.topp
  refine F.ok scInit (fun vs H Q E h => ?_) (fun cdv A outer s H vs Q E hr h => ?_)
  · obtain ⟨p, dx, t, q, rfl, _⟩ := h
    rfl
  · obtain ⟨p, dx, t, q, rfl, hp, ht, hq, kG, kB⟩ := h
    have hr1 : Room 1 _ := hr.mono (by decide)
    refine ⟨_, pss_cons (ps_if (pt_not (pt_val (pe_call G1.ok hr1 (by rfl) G1.mg G1.kp G1.bd .nil pass0 (pa_cons (pv 1) pa_nil)))) (pss_one ps_never) pss_nil)
      (pss_cons (ps_if (pt_not (pt_val (pe_call G1.ok hr1 (by rfl) G1.mg G1.kp G1.bd .nil pass0 (pa_cons (pv 2) pa_nil)))) (pss_one ps_never) pss_nil)
      (pss_cons (ps_if (pt_not (pt_val (pe_call G2.ok hr (by rfl) G2.mg G2.kp G2.bd .nil pass0 (pa_cons (pv 3) pa_nil)))) (pss_one (ps_raise rfl (takes_of rfl rfl rfl rfl) (pmk_oex TBB.oex TBB.iC TBB.tI G5 hr b5 .nil (fun _ _ _ _ _ _ _ h => h.elim) (by rfl) TBB.mgB (pa_cons pe_str pa_nil)))) pss_nil)
      (pss_cons (ps_if (pt_not (pt_val (pe_callN G3.ok hr1 (by rfl) G3.mg G3.kp k1 pass0 (pa_cons (pv 4) pa_nil) (pk_cons (pe_op op_sub (pe_callB call_len_seq (by rfl) T.len PySem.boot_len (pa_cons (pv 3) pa_nil)) pe_int) pk_nil)))) (pss_one ps_never) pss_nil)
      (pss_cons (ps_if (pt_not (pt_val (pe_callN G3.ok hr1 (by rfl) G3.mg G3.kp k2 pass0 (pa_cons (pv 5) pa_nil) (pk_cons pe_int (pk_cons (pe_glob (v := .int 9) rfl e9 ⟨_, rfl⟩) pk_nil))))) (pss_one ps_never) pss_nil)
      (pss_cons (ps_if (pt_not (pt_val (pe_callN G3.ok hr1 (by rfl) G3.mg G3.kp k2 pass0 (pa_cons (pv 6) pa_nil) (pk_cons pe_int (pk_cons (pe_glob (v := .int 9) rfl e9 ⟨_, rfl⟩) pk_nil))))) (pss_one ps_never) pss_nil)
      (pss_cons (ps_if (pt_not (pt_val (pe_call G4.ok hr (by rfl) G4.mg G4.kp G4.bd .nil pass0 (pa_cons (pv 7) pa_nil)))) (pss_one ps_never) pss_nil)
      (pss_cons (ps_fld (pv 0) (pv 1) rfl) (pss_cons (ps_fld (pv 0) (pv 2) rfl) (pss_cons (ps_fld (pv 0) (pv 3) rfl) (pss_cons (ps_fld (pv 0) (pv 4) rfl) (pss_cons (ps_fld (pv 0) (pv 5) rfl) (pss_cons (ps_fld (pv 0) (pv 6) rfl) (pss_one (ps_fld (pv 0) (pv 7) rfl)))))))))))))), ?_⟩
    refine ⟨_, rfl, _, rfl, hq.nm, fun H1 x1 => ⟨true, rfl, iteF ?_⟩⟩
    refine ⟨_, rfl, _, rfl, hq.mt, fun H2 x2 => ⟨true, rfl, iteF ?_⟩⟩
    have x02 := x1.trans x2
    refine ⟨_, rfl, t, q.answers, rfl, ht.ext x02, hq.lo, hq.hi, hq.cl, fun H3 x3 => ?_⟩
    have x03 := x02.trans x3
    show ∃ k, V.bl q.fits = V.bl k ∧ _
    cases hf : q.fits with
    | false =>
      refine ⟨false, rfl, iteT ⟨by show 1 ≤ 1000; decide, fun a ha => ⟨a, _, rfl, upd_same, fun dx2 hd2 hda => ⟨rfl, dx2, _, upd_same, (upd_ne hda).trans upd_same, ?_, ?_⟩⟩⟩⟩
      · rw [upd_ne hda] at hd2
        exact hd2
      · refine kB hf _ _ (fun b o ho => ?_) upd_same
        have h3 := x03 _ _ ho
        have hba := ne_of_none h3 ha
        rw [upd_ne hda] at hd2
        have hbd := ne_of_none h3 hd2
        rw [upd_ne hbd, del_ne hba, upd_ne hba, upd_ne hbd, upd_ne hba]
        exact h3
    | true =>
      refine ⟨true, rfl, iteF ?_⟩
      have hlen : (q.answers.map V.str).length = q.answers.length := List.length_map ..
      refine ⟨_, rfl, _, rfl, t, _, rfl, .inr (ht.ext x03).sq, _, _, rfl, rfl, rfl, rfl, _, _, _, rfl, true, ?_, iteF ?_⟩
      · rw [decide_eq_true hq.r0, decide_eq_true (by have := hq.r1; omega)]
        rfl
      refine ⟨_, rfl, rfl, rfl, _, _, _, rfl, true, ?_, iteF ?_⟩
      · rw [decide_eq_true hq.t0, decide_eq_true hq.t1]
        rfl
      refine ⟨_, rfl, rfl, rfl, _, _, _, rfl, true, ?_, iteF ?_⟩
      · rw [decide_eq_true hq.m0, decide_eq_true hq.m1]
        rfl
      refine ⟨_, rfl, _, rfl, hq.kn, fun H4 x4 => ⟨true, rfl, iteF ?_⟩⟩
      have x04 := x03.trans x4
      refine ⟨_, rfl, _, rfl, p, C, dx, [], rfl, x04 _ _ hp, TC.cl, TC.n1, (by show 0 < 1000; decide), ?_⟩
      refine ⟨_, rfl, _, rfl, p, C, dx, _, rfl, upd_same, TC.cl, TC.n2, Nat.lt_of_le_of_lt (few (Nat.zero_le 0)) (by decide), ?_⟩
      refine ⟨_, rfl, _, rfl, p, C, dx, _, rfl, upd_same, TC.cl, TC.n3, Nat.lt_of_le_of_lt (few (few (Nat.zero_le 0))) (by decide), ?_⟩
      refine ⟨_, rfl, _, rfl, p, C, dx, _, rfl, upd_same, TC.cl, TC.n4, Nat.lt_of_le_of_lt (few (few (few (Nat.zero_le 0)))) (by decide), ?_⟩
      refine ⟨_, rfl, _, rfl, p, C, dx, _, rfl, upd_same, TC.cl, TC.n5, Nat.lt_of_le_of_lt (few (few (few (few (Nat.zero_le 0))))) (by decide), ?_⟩
      refine ⟨_, rfl, _, rfl, p, C, dx, _, rfl, upd_same, TC.cl, TC.n6, Nat.lt_of_le_of_lt (few (few (few (few (few (Nat.zero_le 0)))))) (by decide), ?_⟩
      refine ⟨_, rfl, _, rfl, p, C, dx, _, rfl, upd_same, TC.cl, TC.n7, Nat.lt_of_le_of_lt (few (few (few (few (few (few (Nat.zero_le 0))))))) (by decide), ?_⟩
      refine kG hf _ (fun b o hb ho => ?_) (by rw [upd_same, fields_all])
      repeat rw [upd_ne hb]
      exact x04 _ _ ho
end
end PK
namespace PK
open PySem L2 K8
/-! ### questions as data -/
def qdata (q : Qn) : PyData := .tuple [.str q.name, .str q.matter, .tuple (q.answers.map PyData.str), .int q.right, .int q.toil, .int q.marks, .str q.kin]
theorem eqv_strs : ∀ xs ys : List Str, PyData.eqvAll (xs.map PyData.str) (ys.map PyData.str) = decide (xs = ys)
  | [], [] => by simp [PyData.eqvAll]
  | [], y :: ys => by simp [PyData.eqvAll]
  | x :: xs, [] => by simp [PyData.eqvAll]
  | x :: xs, y :: ys => by
    rw [List.map_cons, List.map_cons, PyData.eqvAll, eqv_strs xs ys]
    by_cases h : x = y <;> by_cases h2 : xs = ys <;> simp [PyData.eqv, h, h2]
theorem eqv_q (q r : Qn) : PyData.eqv (qdata q) (qdata r) = decide (q = r) := by
  obtain ⟨a1, a2, a3, a4, a5, a6, a7⟩ := q
  obtain ⟨b1, b2, b3, b4, b5, b6, b7⟩ := r
  simp only [qdata, PyData.eqv, PyData.eqvAll, eqv_strs, Qn.mk.injEq]
  rw [Bool.eq_iff_iff]
  simp [and_assoc]
theorem let_lt : ∀ c ∈ letT.cps.toList, c < 0x110000 := by decide +kernel
theorem sgn_lt : ∀ c ∈ sgnT.cps.toList, c < 0x110000 := by decide +kernel
theorem ok_str {x : Str} (h : ∀ c ∈ x.cps.toList, c < 0x110000) : (PyData.str x).canLay0 = true := by
  have e : (PyData.str x).canLay0 = x.cps.all (· < 0x110000) := by
    rw [PyData.canLay0]
    rfl
  rw [e, ← Array.all_toList, List.all_eq_true]
  intro c hc
  exact decide_eq_true (h c hc)
theorem ok_name_str {x : Str} (h : NameOk x) : (PyData.str x).canLay0 = true := ok_str fun c hc => let_lt c (h.all c hc)
theorem ok_strs : ∀ {xs : List Str}, (∀ x ∈ xs, TextOk x) → PyData.canLayAll0 (xs.map PyData.str) = true
  | [], _ => by simp [PyData.canLayAll0]
  | x :: xs, h => by
    rw [List.map_cons, PyData.canLayAll0, ok_strs fun y hy => h y (List.mem_cons_of_mem _ hy), ok_str fun c hc => sgn_lt c ((h x List.mem_cons_self).cl.all c hc)]
    rfl
theorem depth_strs : ∀ xs : List Str, PyData.depthAll (xs.map PyData.str) ≤ 1
  | [] => by simp [PyData.depthAll]
  | x :: xs => by
    have := depth_strs xs
    simp [PyData.depthAll, PyData.depth]
    exact this
theorem q_shaped {q : Qn} (h : q.Good) : SeqAt.shaped (qdata q) = true := by
  unfold SeqAt.shaped
  have hk : (PyData.str q.kin).canLay0 = true := by
    rcases h.kn with e | e
    · rw [e]
      exact ok_str fun c hc => by cases hc
    · exact ok_name_str e
  have h2 : (PyData.tuple (q.answers.map PyData.str)).canLay0 = true := by
    rw [PyData.canLay0]
    exact ok_strs h.tx
  rw [Bool.and_eq_true, decide_eq_true_eq]
  constructor
  · rw [qdata, PyData.canLay0, PyData.canLayAll0, PyData.canLayAll0, PyData.canLayAll0, PyData.canLayAll0, PyData.canLayAll0, PyData.canLayAll0, PyData.canLayAll0, PyData.canLayAll0, ok_name_str h.nm, ok_name_str h.mt, h2, hk]
    simp [PyData.canLay0]
  · have := depth_strs q.answers
    simp [qdata, PyData.depth, PyData.depthAll]
    omega
end PK
namespace PK
open PySem L2 K8
/-- what a caller knows of a method -/
structure MCal (P : Program) (w : World) (K : PySem.W.Frag) (mg : Str → Option Value) (base : Heap) (CX : CXT) (k : Nat) (C : Addr) (m : Str) (f : Addr) (fd : FuncData) (ps : List Str) (sp : Sp) : Prop where
  ok : FnOk P w K mg base CX k f fd ps sp
  me : Meth K C m f
  bd : Binds K fd ps []
def spParts (C : Addr) : Sp := fun vs H Q _ => ∃ (p dx t : Addr) (q : Qn), vs = [.ref p] ∧ H p = some (.ins C dx (flds q t)) ∧ ∀ r, H r = none → Q (.ref r) (upd H r (.tup (qvals q t)))
def REq (C : Addr) : RB := fun a b r H => ∃ q q' : Qn, QAt C H a q ∧ QAt C H b q' ∧ r = decide (q = q')
theorem REq.mon (C : Addr) : MonB (REq C) := fun a b r H H' e ⟨q, q', h1, h2, h3⟩ => ⟨q, q', h1.ext e, h2.ext e, h3⟩
def spLen (C : Addr) : Sp := fun vs H Q _ => ∃ (p : Addr) (q : Qn), vs = [.ref p] ∧ QAt C H p q ∧ Q (.int (q.answers.length : Nat)) H
def reprS (q : Qn) : Str := Str.empty ++ "Question(" ++ q.name ++ ")"
def spRepr (C : Addr) : Sp := fun vs H Q _ => ∃ (p : Addr) (q : Qn), vs = [.ref p] ∧ QAt C H p q ∧ Q (.str (reprS q)) H
def tailS (q : Qn) : Str := if q.kin = Str.empty then Str.empty else Str.empty ++ ", of kin " ++ q.kin
def strS (q : Qn) : Str := Str.empty ++ q.name ++ ": " ++ q.matter ++ ", " ++ (toString q.toil : String) ++ ", " ++ (toString q.marks : String) ++ tailS q
def spStr (C : Addr) : Sp := fun vs H Q _ => ∃ (p : Addr) (q : Qn), vs = [.ref p] ∧ QAt C H p q ∧ Q (.str (strS q)) H
def ansS (q : Qn) : Str := q.answers.getD q.right.toNat Str.empty
def spAnswer (C : Addr) : Sp := fun vs H Q _ => ∃ (p : Addr) (q : Qn), vs = [.ref p] ∧ QAt C H p q ∧ Q (.str (ansS q)) H
def spNeedQ (C : Addr) : Sp := fun vs H Q _ => ∃ (p : Addr) (q : Qn), vs = [.ref p] ∧ QAt C H p q ∧ Q .non H
def spIsKin (C : Addr) : Sp := fun vs H Q _ => ∃ (p p' : Addr) (q q' : Qn), vs = [.ref p, .ref p'] ∧ QAt C H p q ∧ QAt C H p' q' ∧ q.name = q'.name ∧ Q (.bl true) H
theorem scParts : FnScope ["self"] ["self"] (defScope sParts) := ⟨rfl, rfl, rfl, by decide +kernel, rfl, by decide +kernel, by decide +kernel⟩
theorem scEq : FnScope ["self", "other"] ["self", "other"] (defScope sEq) := ⟨rfl, rfl, rfl, by decide +kernel, rfl, by decide +kernel, by decide +kernel⟩
theorem scLen : FnScope ["self"] ["self"] (defScope sLen) := ⟨rfl, rfl, rfl, by decide +kernel, rfl, by decide +kernel, by decide +kernel⟩
theorem scRepr : FnScope ["self"] ["self"] (defScope sRepr) := ⟨rfl, rfl, rfl, by decide +kernel, rfl, by decide +kernel, by decide +kernel⟩
theorem scStr : FnScope ["self", "tail"] ["self"] (defScope sStr) := ⟨rfl, rfl, rfl, by decide +kernel, rfl, by decide +kernel, by decide +kernel⟩
theorem scAnswer : FnScope ["self"] ["self"] (defScope sAnswer) := ⟨rfl, rfl, rfl, by decide +kernel, rfl, by decide +kernel, by decide +kernel⟩
theorem scNeedQ : FnScope ["thing"] ["thing"] (defScope sNeedQ) := ⟨rfl, rfl, rfl, by decide +kernel, rfl, by decide +kernel, by decide +kernel⟩
theorem scIsKin : FnScope ["self", "other"] ["self", "other"] (defScope sIsKin) := ⟨rfl, rfl, rfl, by decide +kernel, rfl, by decide +kernel, by decide +kernel⟩
theorem tyQ {K : PySem.W.Frag} {mg : Str → Option Value} {C : Addr} (TC : TQ K mg C) {H : Hp} {a dx : Addr} {fs : List (Str × V)} (h : H a = some (.ins C dx fs)) : TyX K H (.ref a) (.ref C) := .base (.ins h TC.cl TC.cls TC.spe TC.tak TC.obj)
section
variable {P : Program} {w : World} {K : PySem.W.Frag} {mg : Str → Option Value} {base : Heap} {B C fI : Addr}
theorem dp_strs {H : Hp} : ∀ xs : List Str, DpAll K H (xs.map V.str) (xs.map PyData.str)
  | [] => .nil
  | x :: xs => .cons (.str x) (dp_strs xs)
theorem dp_q {H : Hp} {r t : Addr} {q : Qn} (h : H r = some (.tup (qvals q t))) (ht : FTup H t (q.answers.map V.str)) : Dp K H (.ref r) (qdata q) :=
  .tup (SqT.of h) (.cons (.str _) (.cons (.str _) (.cons (.tup ht.sq (dp_strs _)) (.cons (.int _) (.cons (.int _) (.cons (.int _) (.cons (.str _) .nil)))))))
theorem ok_parts {f : Addr} {fd : FuncData} (F : Fun K "parts" "Question.parts" sParts f fd) (TC : TQ K mg C) : FnOk P w K mg base CX0 1 f fd ["self"] (spParts C) := by
  refine F.ok scParts (fun vs H Q E h => ?_) (fun cdv A outer s H vs Q E hr h => ?_)
  · obtain ⟨p, dx, t, q, rfl, _⟩ := h
    rfl
  · obtain ⟨p, dx, t, q, rfl, hp, k⟩ := h
    refine ⟨_, pss_one (ps_ret (pe_tup (pa_cons (pe_fld (pv 0) rfl) (pa_cons (pe_fld (pv 0) rfl) (pa_cons (pe_fld (pv 0) rfl) (pa_cons (pe_fld (pv 0) rfl) (pa_cons (pe_fld (pv 0) rfl) (pa_cons (pe_fld (pv 0) rfl) (pa_cons (pe_fld (pv 0) rfl) pa_nil))))))))), ?_⟩
    refine ⟨_, rfl, p, C, dx, _, _, rfl, hp, TC.cl, TC.n1, fl_name q t, _, rfl, p, C, dx, _, _, rfl, hp, TC.cl, TC.n2, fl_matter q t, _, rfl, p, C, dx, _, _, rfl, hp, TC.cl, TC.n3, fl_answers q t, ?_⟩
    refine ⟨_, rfl, p, C, dx, _, _, rfl, hp, TC.cl, TC.n4, fl_right q t, _, rfl, p, C, dx, _, _, rfl, hp, TC.cl, TC.n5, fl_toil q t, _, rfl, p, C, dx, _, _, rfl, hp, TC.cl, TC.n6, fl_marks q t, ?_⟩
    exact ⟨_, rfl, p, C, dx, _, _, rfl, hp, TC.cl, TC.n7, fl_kin q t, by show 7 ≤ sizeLine; decide, k⟩
theorem ok_eq {f f1 : Addr} {fd fd1 : FuncData} (F : Fun K "__eq__" "Question.__eq__" sEq f fd) (T : T0 mg) (TC : TQ K mg C) (G1 : MCal P w K mg base CX0 1 C "parts" f1 fd1 ["self"] (spParts C)) : FnOk P w K mg base CX0 2 f fd ["self", "other"] (spEqB (REq C)) := by
  refine F.ok scEq (fun vs H Q E h => ?_) (fun cdv A outer s H vs Q E hr h => ?_)
  · obtain ⟨a, b, r, rfl, _⟩ := h
    rfl
  · obtain ⟨a, b, r, rfl, ⟨q, q', ⟨⟨dx, t, ha, ht⟩, gq⟩, ⟨⟨dx', t', hb, ht'⟩, gq'⟩, rfl⟩, k⟩ := h
    refine ⟨_, pss_one (ps_ret (pe_and (pe_callB call_isi (by rfl) T.isin (by decide +kernel) (pa_cons (pv 1) (pa_cons (pe_glob (v := .ref C) rfl TC.mgC rfl) pa_nil)))
      (pe_one (pe_cmpR (op_eqD hr.units) (pe_meth0 (pv 0) TC.cl G1.me G1.ok hr G1.bd .nil pass0) (pe_meth0 (pv 1) TC.cl G1.me G1.ok hr G1.bd .nil pass0) (nomark _))))), ?_⟩
    refine ⟨_, rfl, _, _, _, _, true, rfl, .own C, tyQ TC hb, TC.own, true, rfl, iteT ?_⟩
    refine ⟨_, rfl, a, dx, _, rfl, ha, fl_no q t (by decide +kernel), a, dx, t, q, rfl, ha, fun r1 n1 => ?_⟩
    have x1 : Ext H (upd H r1 (.tup (qvals q t))) := Ext.new Ext.rfl' n1 _
    refine ⟨_, rfl, b, dx', _, rfl, x1 _ _ hb, fl_no q' t' (by decide +kernel), b, dx', t', q', rfl, x1 _ _ hb, fun r2 n2 => ?_⟩
    have x2 := x1.trans (Ext.new Ext.rfl' n2 (.tup (qvals q' t')))
    have n12 : r1 ≠ r2 := fun z => by
      rw [← z, upd_same] at n2
      cases n2
    refine ⟨qdata q, qdata q', dp_q ((upd_ne n12).trans upd_same) (ht.ext x2), dp_q upd_same (ht'.ext x2), q_shaped gq, q_shaped gq', ?_⟩
    rw [eqv_q]
    exact k _ x2
theorem ok_len {f : Addr} {fd : FuncData} (F : Fun K "__len__" "Question.__len__" sLen f fd) (T : T0 mg) (TC : TQ K mg C) : FnOk P w K mg base CX0 1 f fd ["self"] (spLen C) := by
  refine F.ok scLen (fun vs H Q E h => ?_) (fun cdv A outer s H vs Q E hr h => ?_)
  · obtain ⟨p, q, rfl, _⟩ := h
    rfl
  · obtain ⟨p, q, rfl, ⟨⟨dx, t, hp, ht⟩, gq⟩, k⟩ := h
    refine ⟨_, pss_one (ps_ret (pe_callB call_len_seq (by rfl) T.len PySem.boot_len (pa_cons (pe_fld (pv 0) rfl) pa_nil))), ?_⟩
    refine ⟨_, rfl, p, C, dx, _, _, rfl, hp, TC.cl, TC.n3, fl_answers q t, t, _, rfl, .inr ht.sq, ?_⟩
    rw [List.length_map]
    exact k
theorem ok_repr {f : Addr} {fd : FuncData} (F : Fun K "__repr__" "Question.__repr__" sRepr f fd) (TC : TQ K mg C) : FnOk P w K mg base CX0 1 f fd ["self"] (spRepr C) := by
  refine F.ok scRepr (fun vs H Q E h => ?_) (fun cdv A outer s H vs Q E hr h => ?_)
  · obtain ⟨p, q, rfl, _⟩ := h
    rfl
  · obtain ⟨p, q, rfl, ⟨⟨dx, t, hp, ht⟩, gq⟩, k⟩ := h
    have hn := gq.nm.hi
    have l1 : (Str.empty ++ "Question(" : Str).length = 9 := by decide +kernel
    have l2 : (")" : Str).length = 1 := by decide +kernel
    have hz : 1000 ≤ sizeLine := by decide
    refine ⟨_, pss_one (ps_ret (pe_joined (PJ.cons pe_str (PJ.cons (pe_fmt (pe_fld (pv 0) rfl)) (PJ.cons pe_str PJ.nil))))), ?_⟩
    refine ⟨_, rfl, by rw [l1]; omega, _, rfl, p, C, dx, _, _, rfl, hp, TC.cl, TC.n1, fl_name q t, .inl ⟨_, rfl, by omega, _, rfl, ?_, _, rfl, ?_, k⟩⟩
    · rw [Str.length_append, l1]
      omega
    · rw [Str.length_append, Str.length_append, l1, l2]
      omega
theorem dig1 {i : Int} (h1 : 1 ≤ i) (h9 : i ≤ 9) : i.natAbs.log2 < 1920 ∧ (Str.ofString (toString i)).length = 1 := by
  have key : ∀ n : Fin 10, (n.val : Nat).log2 < 1920 ∧ (Str.ofString (toString ((n.val : Nat) : Int))).length = 1 := by decide +kernel
  have := key ⟨i.toNat, by omega⟩
  have e : ((i.toNat : Nat) : Int) = i := by omega
  have e2 : i.natAbs = i.toNat := by omega
  rw [e2]
  simp only [e] at this
  exact this
theorem tail_len {q : Qn} (g : q.Good) : (tailS q).length ≤ 30 := by
  unfold tailS
  have l1 : (Str.empty ++ ", of kin " : Str).length = 9 := by decide +kernel
  by_cases h : q.kin = Str.empty
  · rw [if_pos h]
    decide
  · rw [if_neg h, Str.length_append, l1]
    have := (g.kn.resolve_left h).hi
    omega
theorem ok_str_ {f : Addr} {fd : FuncData} (F : Fun K "__str__" "Question.__str__" sStr f fd) (TC : TQ K mg C) : FnOk P w K mg base CX0 1 f fd ["self"] (spStr C) := by
  refine F.ok scStr (fun vs H Q E h => ?_) (fun cdv A outer s H vs Q E hr h => ?_)
  · obtain ⟨p, q, rfl, _⟩ := h
    rfl
  · obtain ⟨p, q, rfl, ⟨⟨dx, t, hp, ht⟩, gq⟩, k⟩ := h
    have hz : 1000 ≤ sizeLine := by decide
    have hn := gq.nm.hi
    have hm := gq.mt.hi
    obtain ⟨d1, d2⟩ := dig1 gq.t0 gq.t1
    obtain ⟨d3, d4⟩ := dig1 gq.m0 gq.m1
    have l0 : Str.empty.length = 0 := rfl
    have l1 : (": " : Str).length = 2 := by decide +kernel
    have l2 : (", " : Str).length = 2 := by decide +kernel
    have l3 : (", of kin " : Str).length = 9 := by decide +kernel
    refine ⟨_, pss_cons (ps_set (i := 1) scStr.nd rfl (Or.inl rfl) (pe_ifExp (pt_cmpR op_eq (pe_fld (pv 0) rfl) pe_str (nomark _)) pe_str (pe_joined (PJ.cons pe_str (PJ.cons (pe_fmt (pe_fld (pv 0) rfl)) PJ.nil)))))
      (pss_one (ps_ret (pe_joined (PJ.cons (pe_fmt (pe_fld (pv 0) rfl)) (PJ.cons pe_str (PJ.cons (pe_fmt (pe_fld (pv 0) rfl)) (PJ.cons pe_str (PJ.cons (pe_fmt (pe_fld (pv 0) rfl)) (PJ.cons pe_str (PJ.cons (pe_fmt (pe_fld (pv 0) rfl)) (PJ.cons (pe_fmt (pv 1)) PJ.nil))))))))))), ?_⟩
    have e0 : Str.ofString "" = Str.empty := by decide +kernel
    refine ⟨_, rfl, p, C, dx, _, _, rfl, hp, TC.cl, TC.n7, fl_kin q t, rfl, _, rfl, ?_⟩
    rw [decide_strV, e0]
    have fin : ∀ y : Str, y = tailS q → (tFmt (tFld K (tVar 0) "name") [some (.ref p), some (.str y)] H fun x H1 => ∃ y1 : Str, x = .str y1 ∧ (Str.empty ++ y1).length ≤ sizeLine ∧ tJs [tC (.str ": "), tFmt (tFld K (tVar 0) "matter"), tC (.str ", "), tFmt (tFld K (tVar 0) "toil"), tC (.str ", "), tFmt (tFld K (tVar 0) "marks"), tFmt (tVar 1)] (Str.empty ++ y1) [some (.ref p), some (.str y)] H1 fun out H1 => Q (.str out) H1) := by
      rintro y rfl
      have lt := tail_len gq
      refine ⟨_, rfl, p, C, dx, _, _, rfl, hp, TC.cl, TC.n1, fl_name q t, .inl ⟨_, rfl, by omega, _, rfl, ?_, ?_⟩⟩
      · rw [Str.length_append, l0]; omega
      refine ⟨_, rfl, ?_, ?_⟩
      · simp only [Str.length_append, l0, l1]; omega
      refine ⟨_, rfl, p, C, dx, _, _, rfl, hp, TC.cl, TC.n2, fl_matter q t, .inl ⟨_, rfl, by omega, _, rfl, ?_, ?_⟩⟩
      · simp only [Str.length_append, l0, l1]; omega
      refine ⟨_, rfl, ?_, ?_⟩
      · simp only [Str.length_append, l0, l1, l2]; omega
      refine ⟨_, rfl, p, C, dx, _, _, rfl, hp, TC.cl, TC.n5, fl_toil q t, .inr ⟨_, rfl, d1, _, rfl, ?_, ?_⟩⟩
      · simp only [Str.length_append, l0, l1, l2, d2]; omega
      refine ⟨_, rfl, ?_, ?_⟩
      · simp only [Str.length_append, l0, l1, l2, d2]; omega
      refine ⟨_, rfl, p, C, dx, _, _, rfl, hp, TC.cl, TC.n6, fl_marks q t, .inr ⟨_, rfl, d3, _, rfl, ?_, ?_⟩⟩
      · simp only [Str.length_append, l0, l1, l2, d2, d4]; omega
      refine ⟨_, rfl, .inl ⟨_, rfl, by omega, _, rfl, ?_, k⟩⟩
      · simp only [Str.length_append, l0, l1, l2, d2, d4]; omega
    by_cases h : q.kin = Str.empty
    · rw [decide_eq_true h]
      refine iteT (fin Str.empty ?_)
      unfold tailS
      rw [if_pos h]
    · rw [decide_eq_false h]
      have hk := (gq.kn.resolve_left h).hi
      refine iteF ⟨_, rfl, ?_, _, rfl, p, C, dx, _, _, rfl, hp, TC.cl, TC.n7, fl_kin q t, .inl ⟨_, rfl, by omega, _, rfl, ?_, fin _ ?_⟩⟩
      · simp only [Str.length_append, l0, l3]; omega
      · simp only [Str.length_append, l0, l3]; omega
      · unfold tailS
        rw [if_neg h]
theorem ok_answer {f : Addr} {fd : FuncData} (F : Fun K "answer" "Question.answer" sAnswer f fd) (TC : TQ K mg C) : FnOk P w K mg base CX0 1 f fd ["self"] (spAnswer C) := by
  refine F.ok scAnswer (fun vs H Q E h => ?_) (fun cdv A outer s H vs Q E hr h => ?_)
  · obtain ⟨p, q, rfl, _⟩ := h
    rfl
  · obtain ⟨p, q, rfl, ⟨⟨dx, t, hp, ht⟩, gq⟩, k⟩ := h
    refine ⟨_, pss_one (ps_ret (pe_ix ix_tup (pe_fld (pv 0) rfl) (pe_fld (pv 0) rfl) (fun _ _ => rfl))), ?_⟩
    refine ⟨_, rfl, p, C, dx, _, _, rfl, hp, TC.cl, TC.n3, fl_answers q t, _, rfl, p, C, dx, _, _, rfl, hp, TC.cl, TC.n4, fl_right q t, ?_⟩
    have hr1 := gq.r1
    have hr0 := gq.r0
    have hl : q.right.toNat < q.answers.length := by omega
    refine ⟨t, _, _, _, rfl, rfl, ht.sq, ?_, k⟩
    have e : q.right = ((q.right.toNat : Nat) : Int) := by omega
    rw [e]
    refine atI_nat ?_
    unfold ansS
    simp [hl]
theorem ok_needq {f : Addr} {fd : FuncData} (F : Fun K "need_question" "need_question" sNeedQ f fd) (T : T0 mg) (TC : TQ K mg C) : FnOk P w K mg base CX0 1 f fd ["thing"] (spNeedQ C) := by
  refine F.ok scNeedQ (fun vs H Q E h => ?_) (fun cdv A outer s H vs Q E hr h => ?_)
  · obtain ⟨p, q, rfl, _⟩ := h
    rfl
  · obtain ⟨p, q, rfl, ⟨⟨dx, t, hp, ht⟩, gq⟩, k⟩ := h
    refine ⟨_, pss_one (ps_if (pt_not (pt_val (pe_callB call_isi (by rfl) T.isin (by decide +kernel) (pa_cons (pv 0) (pa_cons (pe_glob (v := .ref C) rfl TC.mgC rfl) pa_nil))))) (pss_one ps_never) pss_nil), ?_⟩
    exact ⟨_, rfl, _, _, _, _, true, rfl, .own C, tyQ TC hp, TC.own, true, rfl, iteF k⟩
theorem ok_iskin {f f1 : Addr} {fd fd1 : FuncData} (F : Fun K "is_kin" "Question.is_kin" sIsKin f fd) (TC : TQ K mg C) (G1 : Callee P w K mg base CX0 1 "need_question" f1 fd1 ["thing"] (spNeedQ C)) : FnOk P w K mg base CX0 2 f fd ["self", "other"] (spIsKin C) := by
  refine F.ok scIsKin (fun vs H Q E h => ?_) (fun cdv A outer s H vs Q E hr h => ?_)
  · obtain ⟨p, p', q, q', rfl, _⟩ := h
    rfl
  · obtain ⟨p, p', q, q', rfl, hq, hq', e, k⟩ := h
    obtain ⟨⟨dx, t, hp, ht⟩, gq⟩ := id hq
    obtain ⟨⟨dx', t', hp', ht'⟩, gq'⟩ := id hq'
    refine ⟨_, pss_cons (ps_expr (pe_call G1.ok hr (by rfl) G1.mg G1.kp G1.bd .nil pass0 (pa_cons (pv 1) pa_nil))) (pss_one (ps_ret (pe_or (pe_cmpR op_eq (pe_fld (pv 0) rfl) (pe_fld (pv 1) rfl) (nomark _))
      (pe_one (pe_and (pe_cmpR op_ne (pe_fld (pv 0) rfl) pe_str (nomark _)) (pe_one (pe_cmpR op_eq (pe_fld (pv 0) rfl) (pe_fld (pv 1) rfl) (nomark _)))))))), ?_⟩
    refine ⟨_, rfl, p', q', rfl, hq', ?_⟩
    refine ⟨_, rfl, p, C, dx, _, _, rfl, hp, TC.cl, TC.n1, fl_name q t, _, rfl, p', C, dx', _, _, rfl, hp', TC.cl, TC.n1, fl_name q' t', rfl, ?_⟩
    rw [decide_strV, decide_eq_true e]
    exact ⟨true, rfl, iteT k⟩
end
end PK
namespace PK
open PySem L2 K8
/-! ### turned, changed -/
def turnR (n : Nat) (r : Int) (k : Nat) : Int := if r ≥ (k : Int) then r - k else r - k + n
def turnK (n : Nat) (by_ : Int) : Nat := (by_ % (n : Int)).toNat
def turnL (xs : List Str) (k : Nat) : List Str := xs.drop k ++ xs.take k
def Qn.turn (q : Qn) (by_ : Int) : Qn := { q with answers := turnL q.answers (turnK q.answers.length by_), right := turnR q.answers.length q.right (turnK q.answers.length by_) }
theorem turnK_lt {n : Nat} (h : 0 < n) (i : Int) : turnK n i < n ∧ ((turnK n i : Nat) : Int) = i % n := by
  have h1 := Int.emod_nonneg i (by omega : (n : Int) ≠ 0)
  have h2 := Int.emod_lt_of_pos i (by omega : (0 : Int) < n)
  unfold turnK
  omega
theorem turnL_perm (xs : List Str) (k : Nat) : (turnL xs k).Perm xs := by
  unfold turnL
  refine List.perm_append_comm.trans ?_
  rw [List.take_append_drop]
theorem turn_good {q : Qn} (g : q.Good) (i : Int) : (q.turn i).Good := by
  have hp := turnL_perm q.answers (turnK q.answers.length i)
  have hl := hp.length_eq
  obtain ⟨k1, k2⟩ := turnK_lt (n := q.answers.length) (by have := g.lo; omega) i
  have r0 := g.r0
  have r1 := g.r1
  refine ⟨g.nm, g.mt, ?_, ?_, fun x hx => g.tx x (hp.mem_iff.mp hx), hp.nodup_iff.mpr g.nd, ?_, ?_, g.t0, g.t1, g.m0, g.m1, g.kn⟩
  · show 2 ≤ (turnL _ _).length
    rw [hl]; exact g.lo
  · show (turnL _ _).length ≤ 6
    rw [hl]; exact g.hi
  · show 0 ≤ turnR _ _ _
    unfold turnR
    split <;> omega
  · show turnR _ _ _ < ((turnL _ _).length : Nat)
    rw [hl]
    unfold turnR
    split <;> omega
/-- a question that was just made -/
theorem made {C x dx t : Addr} {H2 H3 : Hp} {q : Qn} (nx : H2 x = none) (ndx : H2 dx = none) (ht : FTup H2 t (q.answers.map V.str)) (g : q.Good)
    (kp : ∀ b o, b ≠ x → upd (upd H2 dx (.own x)) x (.ins C dx []) b = some o → H3 b = some o) (hx : H3 x = some (.ins C dx (flds q t))) : Ext H2 H3 ∧ QAt C H3 x q := by
  have e : Ext H2 H3 := fun b o ho => kp b o (ne_of_none ho nx) (by rw [upd_ne (ne_of_none ho nx), upd_ne (ne_of_none ho ndx)]; exact ho)
  exact ⟨e, ⟨dx, t, hx, ht.ext e⟩, g⟩
def spTurned (C : Addr) : Sp := fun vs H Q _ => ∃ (p : Addr) (q : Qn) (i : Int), vs = [.ref p, .int i] ∧ QAt C H p q ∧ ∀ r H', Ext H H' → QAt C H' r (q.turn i) → Q (.ref r) H'
theorem scTurned : FnScope ["self", "by", "many", "first", "right", "answers"] ["self", "by"] (defScope sTurned) := ⟨rfl, rfl, rfl, by decide +kernel, rfl, by decide +kernel, by decide +kernel⟩
/-- Question made by a call -/
structure QMk (P : Program) (w : World) (K : PySem.W.Frag) (mg : Str → Option Value) (base : Heap) (C B f : Addr) (fd : FuncData) : Prop where
  ok : FnOk P w K mg base (L2.CX P w) 3 f fd ["self", "name", "matter", "answers", "right", "toil", "marks", "kin"] (spInit C B)
  mkc : Mk K C f
  k4 : ∃ g, KBn K fd ["self", "name", "matter", "answers", "right", "toil", "marks", "kin"] 4 ["right", "toil", "marks", "kin"] g (fun vs zs => vs ++ zs)
/-- both ways give the same value -/
theorem if_val {c : Bool} {ta tb : TE} {σ : L2.St} {H : Hp} {Q : VK} (v : V) (h1 : c = true → ∀ Q' : VK, Q' v H → ta σ H Q') (h2 : c = false → ∀ Q' : VK, Q' v H → tb σ H Q') (q : Q v H) : if c = true then ta σ H Q else tb σ H Q := by
  cases c with
  | true => exact iteT (h1 rfl Q q)
  | false => exact iteF (h2 rfl Q q)
theorem cut_hi (ys : List Str) (k : Nat) (h : k ≤ ys.length) : cutV (ys.map V.str) (some (k : Int)) none = (ys.drop k).map V.str := by
  unfold cutV
  rw [HT.sIx_nat, HT.sIx_none, List.length_map, Nat.min_eq_left h, List.take_of_length_le (by simp), List.map_drop]
theorem cut_lo (ys : List Str) (k : Nat) (h : k ≤ ys.length) : cutV (ys.map V.str) none (some (k : Int)) = (ys.take k).map V.str := by
  unfold cutV
  rw [HT.sIx_nat, HT.sIx_none, List.length_map, Nat.min_eq_left h, List.drop_zero, Nat.sub_zero, List.map_take]
section
variable {P : Program} {w : World} {K : PySem.W.Frag} {mg : Str → Option Value} {base : Heap} {B C fI : Addr}
theorem ok_turned {f f1 f2 : Addr} {fd fd1 fd2 : FuncData} (F : Fun K "turned" "Question.turned" sTurned f fd) (T : T0 mg) (TC : TQ K mg C) (G1 : Callee P w K mg base CX0 1 "is_number" f1 fd1 ["thing"] spNumber) (G2 : QMk P w K mg base C B f2 fd2) :
    FnOk P w K mg base CX0 5 f fd ["self", "by"] (spTurned C) := by
  obtain ⟨g4, k4⟩ := G2.k4
  refine F.ok scTurned (fun vs H Q E h => ?_) (fun cdv A outer s H vs Q E hr h => ?_)
  · obtain ⟨p, q, i, rfl, _⟩ := h
    rfl
  · obtain ⟨p, q, i, rfl, hq, k⟩ := h
    obtain ⟨⟨dx, t, hp, ht⟩, gq⟩ := id hq
    refine ⟨_, pss_cons (ps_if (pt_not (pt_val (pe_call G1.ok (hr.mono (by decide)) (by rfl) G1.mg G1.kp G1.bd .nil pass0 (pa_cons (pv 1) pa_nil)))) (pss_one ps_never) pss_nil)
      (pss_cons (ps_set (i := 2) scTurned.nd rfl (Or.inl rfl) (pe_callB call_len_seq (by rfl) T.len PySem.boot_len (pa_cons (pe_fld (pv 0) rfl) pa_nil)))
      (pss_cons (ps_set (i := 3) scTurned.nd rfl (Or.inl rfl) (pe_op op_sub (pv 1) (pe_op op_mul (pe_op op_fdivN (pv 1) (pv 2)) (pv 2))))
      (pss_cons (ps_set (i := 4) scTurned.nd rfl (Or.inl rfl) (pe_ifExp (pt_cmpR op_ge (pe_fld (pv 0) rfl) (pv 3) (nomark _)) (pe_op op_sub (pe_fld (pv 0) rfl) (pv 3)) (pe_op op_add (pe_op op_sub (pe_fld (pv 0) rfl) (pv 3)) (pv 2))))
      (pss_cons (ps_set (i := 5) scTurned.nd rfl (Or.inl rfl) (pe_op op_catF (pe_slice sl_tupF (pe_fld (pv 0) rfl) (po_some (pv 3)) po_none) (pe_slice sl_tupF (pe_fld (pv 0) rfl) po_none (po_some (pv 3)))))
      (pss_one (ps_ret (pe_makeN G2.mkc G2.ok hr (by rfl) TC.mgC k4 passL (pa_cons (pe_fld (pv 0) rfl) (pa_cons (pe_fld (pv 0) rfl) (pa_cons (pv 5) pa_nil)))
        (pk_cons (pv 4) (pk_cons (pe_fld (pv 0) rfl) (pk_cons (pe_fld (pv 0) rfl) (pk_cons (pe_fld (pv 0) rfl) pk_nil))))))))))), ?_⟩
    refine ⟨_, rfl, i, rfl, true, rfl, iteF ?_⟩
    refine ⟨_, rfl, p, C, dx, _, _, rfl, hp, TC.cl, TC.n3, fl_answers q t, t, _, rfl, .inr ht.sq, ?_⟩
    rw [List.length_map]
    have hlo := gq.lo
    have hhi := gq.hi
    generalize hn : q.answers.length = n at *
    obtain ⟨c1, c2⟩ := turnK_lt (n := n) (by omega) i
    refine ⟨_, rfl, _, rfl, _, rfl, i, (n : Int), rfl, rfl, ⟨by omega, by omega⟩, _, rfl, _, _, rfl, rfl, .inr ⟨by omega, by omega⟩, _, _, rfl, rfl, ?_⟩
    have ef : i - i.fdiv (n : Int) * (n : Int) = ((turnK n i : Nat) : Int) := by
      rw [c2, Int.fdiv_eq_ediv_of_nonneg _ (by omega), Int.emod_def, Int.mul_comm]
    show gName 3 (V.int (i - i.fdiv (n : Int) * (n : Int))) _ _ _
    rw [ef]
    generalize hk : turnK n i = m at *
    refine ⟨_, rfl, p, C, dx, _, _, rfl, hp, TC.cl, TC.n4, fl_right q t, _, rfl, _, _, rfl, rfl, _, rfl, ?_⟩
    refine if_val (.int (turnR n q.right m)) (fun c Q' q' => ?_) (fun c Q' q' => ?_) ?_
    · refine ⟨_, rfl, p, C, dx, _, _, rfl, hp, TC.cl, TC.n4, fl_right q t, _, rfl, _, _, rfl, rfl, ?_⟩
      have c' := of_decide_eq_true c
      rw [turnR, if_pos c'] at q'
      exact q'
    · refine ⟨_, rfl, p, C, dx, _, _, rfl, hp, TC.cl, TC.n4, fl_right q t, _, rfl, _, _, rfl, rfl, _, rfl, _, _, rfl, rfl, ?_⟩
      have c' := of_decide_eq_false c
      rw [turnR, if_neg c'] at q'
      exact q'
    have fin : ∀ (t' : Addr) (H1 : Hp), Ext H H1 → FTup H1 t' ((turnL q.answers m).map V.str) → tMakeN C 3 4 (spInit C B) (fun vs zs => vs ++ zs) E0 (tCons (tFld K (tVar 0) "name") (tCons (tFld K (tVar 0) "matter") (tCons (tVar 5) tNil)))
        (tCons (tVar 4) (tCons (tFld K (tVar 0) "toil") (tCons (tFld K (tVar 0) "marks") (tCons (tFld K (tVar 0) "kin") tNil)))) [some (.ref p), some (.int i), some (.int n), some (.int m), some (.int (turnR n q.right m)), some (.ref t')] H1 Q := by
      intro t' H1 x1 ht'
      have hp1 := x1 _ _ hp
      refine ⟨_, rfl, p, C, dx, _, _, rfl, hp1, TC.cl, TC.n1, fl_name q t, _, rfl, p, C, dx, _, _, rfl, hp1, TC.cl, TC.n2, fl_matter q t, _, rfl, _, rfl, ?_⟩
      refine ⟨_, rfl, p, C, dx, _, _, rfl, hp1, TC.cl, TC.n5, fl_toil q t, _, rfl, p, C, dx, _, _, rfl, hp1, TC.cl, TC.n6, fl_marks q t, _, rfl, p, C, dx, _, _, rfl, hp1, TC.cl, TC.n7, fl_kin q t, rfl, rfl, ?_⟩
      intro x dx2 nx ndx nex
      have gt := turn_good gq i
      have et : q.turn i = { q with answers := turnL q.answers m, right := turnR n q.right m } := by
        unfold Qn.turn
        rw [hn, hk]
      refine ⟨x, dx2, t', q.turn i, ?_, upd_same, ?_, gt.near.1, fun _ H3 kp hx => ⟨rfl, ?_⟩, fun f => ?_⟩
      · rw [et]
        rfl
      · rw [et]
        exact ht'.ext ((Ext.new Ext.rfl' ndx _).trans (Ext.new Ext.rfl' ((upd_ne nex.symm).trans nx) _))
      · obtain ⟨e3, q3⟩ := made (t := t') (q := q.turn i) nx ndx (by rw [et]; exact ht') gt kp hx
        exact k _ _ (x1.trans e3) q3
      · rw [gt.near.2] at f
        cases f
    have hm : m ≤ q.answers.length := by omega
    have s1 : ∀ (H1 : Hp) (Q' : VK), Ext H H1 → (∀ (a : Addr) (H2 : Hp), Ext H1 H2 → FTup H2 a ((q.answers.drop m).map V.str) → (m = 0 → a = t) → Q' (.ref a) H2) →
        tSl (rSlF K) (tFld K (tVar 0) "answers") (tPart (tVar 3)) tNoPart [some (.ref p), some (.int i), some (.int n), some (.int m), some (.int (turnR n q.right m)), none] H1 Q' := by
      intro H1 Q' x1 k1
      refine ⟨_, rfl, p, C, dx, _, _, rfl, x1 _ _ hp, TC.cl, TC.n3, fl_answers q t, _, rfl, _, rfl, t, _, rfl, (ht.ext x1).sq, fun hw => ?_, fun hw a H2 na hH2 ft => ?_⟩
      · rw [HT.sIx_nat, List.length_map] at hw
        have e0 : m = 0 := by omega
        refine k1 t H1 Ext.rfl' ?_ (fun _ => rfl)
        rw [e0, List.drop_zero]
        exact ht.ext x1
      · obtain ⟨o, rfl⟩ := hH2
        rw [cut_hi _ _ hm] at ft
        refine k1 a _ (Ext.new Ext.rfl' na _) ft (fun e0 => ?_)
        rw [HT.sIx_nat, HT.sIx_none, List.length_map] at hw
        exact (hw ⟨by omega, rfl⟩).elim
    have s2 : ∀ (H1 : Hp) (Q' : VK), Ext H H1 → (∀ (a : Addr) (H2 : Hp), Ext H1 H2 → FTup H2 a ((q.answers.take m).map V.str) → Q' (.ref a) H2) →
        tSl (rSlF K) (tFld K (tVar 0) "answers") tNoPart (tPart (tVar 3)) [some (.ref p), some (.int i), some (.int n), some (.int m), some (.int (turnR n q.right m)), none] H1 Q' := by
      intro H1 Q' x1 k1
      refine ⟨_, rfl, p, C, dx, _, _, rfl, x1 _ _ hp, TC.cl, TC.n3, fl_answers q t, _, rfl, _, rfl, t, _, rfl, (ht.ext x1).sq, fun hw => ?_, fun hw a H2 na hH2 ft => ?_⟩
      · rw [HT.sIx_nat, HT.sIx_none, List.length_map] at hw
        omega
      · obtain ⟨o, rfl⟩ := hH2
        rw [cut_lo _ _ hm] at ft
        exact k1 a _ (Ext.new Ext.rfl' na _) ft
    refine s1 H _ Ext.rfl' fun a1 H1 x1 f1 z1 => s2 H1 _ x1 fun a2 H2 x2 f2 => ?_
    have x12 := x1.trans x2
    refine ⟨a1, a2, _, _, rfl, rfl, (f1.ext x2).sq, f2.sq, ?_, fun e => ?_, fun _ e => ?_, fun _ _ r H3 nr hH3 ft => ?_⟩
    · rw [List.length_map, List.length_map, List.length_drop, List.length_take]
      have : 100 ≤ sizeLine := by decide
      omega
    · have := congrArg List.length e
      rw [List.length_map, List.length_drop, List.length_nil] at this
      omega
    · have := congrArg List.length e
      rw [List.length_map, List.length_take, List.length_nil] at this
      have e0 : m = 0 := by omega
      refine fin a1 H2 x12 ?_
      unfold turnL
      rw [e0, List.take_zero, List.append_nil, ← e0]
      exact f1.ext x2
    · obtain ⟨o, rfl⟩ := hH3
      refine fin r _ (x12.trans (Ext.new Ext.rfl' nr _)) ?_
      unfold turnL
      rw [List.map_append]
      exact ft
end
end PK
namespace PK
open PySem L2 K8
def optI : Option Int → V
  | none => .non
  | some i => .int i
def optS : Option Str → V
  | none => .non
  | some i => .str i
def Qn.chg (q : Qn) (r t m : Option Int) (k : Option Str) : Qn := { q with right := r.getD q.right, toil := t.getD q.toil, marks := m.getD q.marks, kin := k.getD q.kin }
def spChanged (C : Addr) : Sp := fun vs H Q _ => ∃ (p : Addr) (q : Qn) (r t m : Option Int) (k : Option Str), vs = [.ref p, optI r, optI t, optI m, optS k] ∧ QAt C H p q ∧ (q.chg r t m k).Good ∧ ∀ x H', Ext H H' → QAt C H' x (q.chg r t m k) → Q (.ref x) H'
theorem scChanged : FnScope ["self", "right", "toil", "marks", "kin"] ["self", "right", "toil", "marks", "kin"] (defScope sChanged) := ⟨rfl, rfl, rfl, by decide +kernel, rfl, by decide +kernel, by decide +kernel⟩
theorem non_I (o : Option Int) : decide (optI o = V.non) = o.isNone := by cases o <;> simp [optI]
theorem non_S (o : Option Str) : decide (optS o = V.non) = o.isNone := by cases o <;> simp [optS]
section
variable {P : Program} {w : World} {K : PySem.W.Frag} {mg : Str → Option Value} {base : Heap} {B C fI : Addr}
theorem ok_changed {f f2 : Addr} {fd fd2 : FuncData} {dvs : List V} (F : FunD K "changed" "Question.changed" (defArgs sChanged) (defBody sChanged) (defScope sChanged) dvs [] f fd) (TC : TQ K mg C) (G2 : QMk P w K mg base C B f2 fd2) :
    FnOk P w K mg base CX0 5 f fd ["self", "right", "toil", "marks", "kin"] (spChanged C) := by
  obtain ⟨g4, k4⟩ := G2.k4
  refine F.ok scChanged (fun vs H Q E h => ?_) (fun cdv A outer s H vs Q E hr h => ?_)
  · obtain ⟨p, q, r, t, m, k, rfl, _⟩ := h
    rfl
  · obtain ⟨p, q, ro, to_, mo, ko, rfl, hq, gq, k⟩ := h
    obtain ⟨⟨dx, t, hp, ht⟩, gq0⟩ := id hq
    refine ⟨_, pss_cons (ps_set (i := 1) scChanged.nd rfl (Or.inl rfl) (pe_ifExp (pt_cmpR op_isN (pv 1) pe_non (nomark _)) (pe_fld (pv 0) rfl) (pv 1)))
      (pss_cons (ps_set (i := 2) scChanged.nd rfl (Or.inl rfl) (pe_ifExp (pt_cmpR op_isN (pv 2) pe_non (nomark _)) (pe_fld (pv 0) rfl) (pv 2)))
      (pss_cons (ps_set (i := 3) scChanged.nd rfl (Or.inl rfl) (pe_ifExp (pt_cmpR op_isN (pv 3) pe_non (nomark _)) (pe_fld (pv 0) rfl) (pv 3)))
      (pss_cons (ps_set (i := 4) scChanged.nd rfl (Or.inl rfl) (pe_ifExp (pt_cmpR op_isN (pv 4) pe_non (nomark _)) (pe_fld (pv 0) rfl) (pv 4)))
      (pss_one (ps_ret (pe_makeN G2.mkc G2.ok hr (by rfl) TC.mgC k4 passL (pa_cons (pe_fld (pv 0) rfl) (pa_cons (pe_fld (pv 0) rfl) (pa_cons (pe_fld (pv 0) rfl) pa_nil)))
        (pk_cons (pv 1) (pk_cons (pv 2) (pk_cons (pv 3) (pk_cons (pv 4) pk_nil)))))))))), ?_⟩
    refine ⟨_, rfl, rfl, _, rfl, ?_⟩
    rw [non_I]
    refine if_val (.int (ro.getD q.right)) (fun c Q' q' => ?_) (fun c Q' q' => ?_) ?_
    · obtain rfl := Option.isNone_iff_eq_none.mp c
      exact ⟨_, rfl, p, C, dx, _, _, rfl, hp, TC.cl, TC.n4, fl_right q t, q'⟩
    · cases ro with
      | none => cases c
      | some z => exact ⟨_, rfl, q'⟩
    refine ⟨_, rfl, rfl, _, rfl, ?_⟩
    rw [non_I]
    refine if_val (.int (to_.getD q.toil)) (fun c Q' q' => ?_) (fun c Q' q' => ?_) ?_
    · obtain rfl := Option.isNone_iff_eq_none.mp c
      exact ⟨_, rfl, p, C, dx, _, _, rfl, hp, TC.cl, TC.n5, fl_toil q t, q'⟩
    · cases to_ with
      | none => cases c
      | some z => exact ⟨_, rfl, q'⟩
    refine ⟨_, rfl, rfl, _, rfl, ?_⟩
    rw [non_I]
    refine if_val (.int (mo.getD q.marks)) (fun c Q' q' => ?_) (fun c Q' q' => ?_) ?_
    · obtain rfl := Option.isNone_iff_eq_none.mp c
      exact ⟨_, rfl, p, C, dx, _, _, rfl, hp, TC.cl, TC.n6, fl_marks q t, q'⟩
    · cases mo with
      | none => cases c
      | some z => exact ⟨_, rfl, q'⟩
    refine ⟨_, rfl, rfl, _, rfl, ?_⟩
    rw [non_S]
    refine if_val (.str (ko.getD q.kin)) (fun c Q' q' => ?_) (fun c Q' q' => ?_) ?_
    · obtain rfl := Option.isNone_iff_eq_none.mp c
      exact ⟨_, rfl, p, C, dx, _, _, rfl, hp, TC.cl, TC.n7, fl_kin q t, q'⟩
    · cases ko with
      | none => cases c
      | some z => exact ⟨_, rfl, q'⟩
    refine ⟨_, rfl, p, C, dx, _, _, rfl, hp, TC.cl, TC.n1, fl_name q t, _, rfl, p, C, dx, _, _, rfl, hp, TC.cl, TC.n2, fl_matter q t, _, rfl, p, C, dx, _, _, rfl, hp, TC.cl, TC.n3, fl_answers q t, ?_⟩
    refine ⟨_, rfl, _, rfl, _, rfl, _, rfl, rfl, rfl, ?_⟩
    intro x dx2 nx ndx nex
    refine ⟨x, dx2, t, q.chg ro to_ mo ko, rfl, upd_same, ht.ext ((Ext.new Ext.rfl' ndx _).trans (Ext.new Ext.rfl' ((upd_ne nex.symm).trans nx) _)), gq.near.1, fun _ H3 kp hx => ⟨rfl, ?_⟩, fun f => ?_⟩
    · obtain ⟨e3, q3⟩ := made (t := t) (q := q.chg ro to_ mo ko) nx ndx ht gq kp hx
      exact k _ _ e3 q3
    · rw [gq.near.2] at f
      cases f
end
end PK
namespace PK
open PySem L2 K8 LamX
/-! ### lists of questions -/
/-- a list of questions at l, told by qf -/
structure QsAt (C : Addr) (H : Hp) (l : Addr) (ps : List Addr) (qf : Addr → Qn) : Prop where
  at_ : H l = some (.lst (ps.map V.ref))
  it : ∀ p ∈ ps, QAt C H p (qf p)
  few : ps.length ≤ 1000
theorem QsAt.ext {C : Addr} {H H' : Hp} {l : Addr} {ps : List Addr} {qf : Addr → Qn} (h : QsAt C H l ps qf) (e : Ext H H') : QsAt C H' l ps qf := ⟨e _ _ h.at_, fun p hp => (h.it p hp).ext e, h.few⟩
theorem FTup.extN {H H' : Hp} {p : Addr} {xs : List V} (h : FTup H p xs) (e : ExtN H H') : FTup H' p xs := let ⟨o, d, h⟩ := h; ⟨o, d, e _ _ h fun ps z => by cases z⟩
theorem QAt.extN {C : Addr} {H H' : Hp} {p : Addr} {q : Qn} (h : QAt C H p q) (e : ExtN H H') : QAt C H' p q :=
  let ⟨dx, t, h1, h2⟩ := h.ex; ⟨⟨dx, t, e _ _ h1 fun ps z => (by cases z), FTup.extN h2 e⟩, h.ok⟩
theorem QsAt.extN {C : Addr} {H H' : Hp} {l : Addr} {ps : List Addr} {qf : Addr → Qn} (h : QsAt C H l ps qf) (e : ExtN H H') : QsAt C H' l ps qf := ⟨e _ _ h.at_ fun ps z => (by cases z), fun p hp => (h.it p hp).extN e, h.few⟩
def kOf (q : Qn) : K3 := (q.toil, q.matter, q.name)
def srt (qf : Addr → Qn) (ps : List Addr) : List Addr := ps.mergeSort (PySem.W.dataLe false fun y => kd (kOf (qf y)))
def spNeedQs (C : Addr) : Sp := fun vs H Q _ => ∃ (l : Addr) (ps : List Addr) (qf : Addr → Qn), vs = [.ref l] ∧ QsAt C H l ps qf ∧ ∀ H', Ext H H' → Q .non H'
def spByToil (C : Addr) (T : List (Addr × Str)) : Sp := fun vs H Q _ => ∃ (l : Addr) (ps : List Addr) (qf : Addr → Qn), vs = [.ref l] ∧ QsAt C H l ps qf ∧ Tabs T H ∧
  ∀ r H', ExtN H H' → Tabs T H' → H' r = some (.lst ((srt qf ps).map V.ref)) → Q (.ref r) H'
def spToilSum (C : Addr) : Sp := fun vs H Q _ => ∃ (l : Addr) (ps : List Addr) (qf : Addr → Qn) (z : Int), vs = [.ref l, .int z] ∧ QsAt C H l ps qf ∧ ∀ H', Ext H H' → Q (.int (z + (ps.map fun p => (qf p).toil).sum)) H'
theorem scNeedQs : FnScope ["thing", "one"] ["thing"] (defScope sNeedQs) := ⟨rfl, rfl, rfl, by decide +kernel, rfl, by decide +kernel, by decide +kernel⟩
theorem scByToil : FnScope ["questions"] ["questions"] (defScope sByToil) := ⟨rfl, rfl, rfl, by decide +kernel, rfl, by decide +kernel, by decide +kernel⟩
theorem scToilSum : FnScope ["questions", "start", "one"] ["questions", "start"] (defScope sToilSum) := ⟨rfl, rfl, rfl, by decide +kernel, rfl, by decide +kernel, by decide +kernel⟩
section
variable {P : Program} {w : World} {K : PySem.W.Frag} {mg : Str → Option Value} {base : Heap} {B C fI : Addr}
theorem ok_needqs {f f1 : Addr} {fd fd1 : FuncData} (F : Fun K "need_questions" "need_questions" sNeedQs f fd) (T : T0 mg) (G1 : Callee P w K mg base CX0 1 "need_question" f1 fd1 ["thing"] (spNeedQ C)) : FnOk P w K mg base CX0 2 f fd ["thing"] (spNeedQs C) := by
  refine F.ok scNeedQs (fun vs H Q E h => ?_) (fun cdv A outer s H vs Q E hr h => ?_)
  · obtain ⟨l, ps, qf, rfl, _⟩ := h
    rfl
  · obtain ⟨l, ps, qf, rfl, hL, k⟩ := h
    refine ⟨_, pss_cons (ps_if (pt_not (pt_val (pe_callB call_isiT (by rfl) T.isin (by decide +kernel) (pa_cons (pv 0) (pa_cons (pe_tup (pa_cons (pe_bltn (v := .ty "list") (by rfl) T.list (by decide +kernel) rfl) (pa_cons (pe_bltn (v := .ty "tuple") (by rfl) T.tuple (by decide +kernel) rfl) pa_nil))) pa_nil))))) (pss_one ps_never) pss_nil)
      (pss_one (ps_for PassesOwn.never rfl (pi_list (pv 0)) (pg_name (i := 1) scNeedQs.nd rfl (Or.inl rfl)) (pss_one (ps_expr (pe_call G1.ok hr (by rfl) G1.mg G1.kp G1.bd .nil pass0 (pa_cons (pv 1) pa_nil)))))), ?_⟩
    refine ⟨_, rfl, by show 2 ≤ sizeLine; decide, fun tp ntp => ?_⟩
    have x1 : Ext H (upd H tp (.tup [.ty "list", .ty "tuple"])) := Ext.new Ext.rfl' ntp _
    have hL1 := hL.ext x1
    refine ⟨_, tp, _, _, _, true, rfl, upd_same, .cons (.ty "list") (.cons (.ty "tuple") .nil), .base (.lst hL1.at_), kitAny_cons (b := true) (kit_ty (by decide +kernel)) (fun z => by cases z) (fun _ => rfl), true, rfl, iteF ?_⟩
    refine ⟨_, rfl, l, rfl, ⟨_, SqL.of hL1.at_⟩, for_list (K := K) (a := l) (xs := ps.map V.ref) (fun i σ H' => (∃ v, σ = [some (.ref l), v]) ∧ Ext H H') ⟨⟨_, rfl⟩, x1⟩ (fun i σ H' _ h => SqL.of (hL.ext h.2).at_) ?_ ?_⟩
    · rintro i y σ H1 hi ⟨⟨v, rfl⟩, e⟩
      rw [List.getElem?_map] at hi
      obtain ⟨p, hp, rfl⟩ := Option.map_eq_some_iff.mp hi
      exact ⟨_, rfl, p, qf p, rfl, (hL.ext e).it p (List.mem_of_getElem? hp), ⟨_, rfl⟩, e⟩
    · rintro σ H1 ⟨⟨v, rfl⟩, e⟩
      exact k _ e
theorem ok_toilsum {f f1 : Addr} {fd fd1 : FuncData} {dvs : List V} (F : FunD K "toil_sum" "toil_sum" (defArgs sToilSum) (defBody sToilSum) (defScope sToilSum) dvs [] f fd) (T : T0 mg) (TC : TQ K mg C) (G1 : Callee P w K mg base CX0 2 "need_questions" f1 fd1 ["thing"] (spNeedQs C)) :
    FnOk P w K mg base CX0 3 f fd ["questions", "start"] (spToilSum C) := by
  refine F.ok scToilSum (fun vs H Q E h => ?_) (fun cdv A outer s H vs Q E hr h => ?_)
  · obtain ⟨l, ps, qf, z, rfl, _⟩ := h
    rfl
  · obtain ⟨l, ps, qf, z, rfl, hL, k⟩ := h
    refine ⟨_, pss_cons (ps_expr (pe_call G1.ok hr (by rfl) G1.mg G1.kp G1.bd .nil pass0 (pa_cons (pv 0) pa_nil)))
      (pss_one (ps_ret (pe_callBK (cr_sumZ rfl) (by rfl) T.sum (by decide +kernel) (pa_cons (pe_lc (own := [("one", 2)]) (g := gName 2) (tt := tYes) (te := tFld K (tVar 2) "toil") rfl scToilSum.nd (pi_list (pv 0)) (blkOk_by (N := ["questions", "start", "one"]) (sc := defScope sToilSum) (by decide +kernel))
        (fun _ _ _ _ _ => pg_name (i := 2) scToilSum.nd rfl (Or.inl rfl)) (fun _ _ _ _ _ => pts_nil) (fun _ _ _ _ _ => pe_fld (pv 2) rfl)) pa_nil) (pk_cons (pv 1) pk_nil)))), ?_⟩
    refine ⟨_, rfl, l, ps, qf, rfl, hL, fun H1 x1 => ?_⟩
    have hL1 := hL.ext x1
    refine ⟨_, rfl, l, rfl, ⟨_, SqL.of hL1.at_⟩, fun D hD => ?_⟩
    refine lc_list (K := K) (a := l) (xs := ps.map V.ref) (fun i H' => Ext H1 H' ∧ H' D = some (.lst (lv (fun i => .int (qf (ps.getD i 0)).toil) i))) ⟨Ext.new Ext.rfl' hD _, upd_same⟩ (fun i H' _ h => SqL.of (hL1.ext h.1).at_) ?_ ?_
    · rintro i y H2 hi ⟨e, hDD⟩
      rw [List.getElem?_map] at hi
      obtain ⟨p, hp, rfl⟩ := Option.map_eq_some_iff.mp hi
      obtain ⟨⟨dx, t, hp1, ht⟩, gq⟩ := (hL1.ext e).it p (List.mem_of_getElem? hp)
      refine ⟨rfl, yesT ?_⟩
      refine ⟨_, rfl, p, C, dx, _, _, rfl, hp1, TC.cl, TC.n5, fl_toil _ t, _, hDD, ?_, e.new hD _, lv_step ?_⟩
      · rw [lv_len]
        have h1 := (List.getElem?_eq_some_iff.mp hp).1
        have h2 := hL.few
        have h3 : 1000 < sizeLine := by decide
        omega
      · rw [getD_of hp]
    · rintro H2 ⟨e, hDD⟩
      rw [List.length_map, lv_of ps 0 (fun p => .int (qf p).toil)] at hDD
      refine ⟨_, rfl, D, ps.map (fun p => (qf p).toil), z, rfl, rfl, SqL.of ?_, k _ (x1.trans e)⟩
      rw [hDD, List.map_map]
      rfl
theorem ok_bytoil {f f1 c Pt : Addr} {fd1 : FuncData} {oc kV dc pm ct : Value} {od an : Option Addr} {osl : Array (Option Value)}
    (lk : K.lookup f = some ⟨oc, od, .func (PySem.W.fnOf "by_toil" "by_toil" (defArgs sByToil) (defBody sByToil) (defScope sByToil) .none kV dc pm an (.ref c) ct), osl⟩) (hcd : PySem.W.codeIn K (.ref c) "by_toil" = true)
    (T : T0 mg) (TC : TQ K mg C) (TBa : TabB base mg c Pt) (G1 : Callee P w K mg base CX0 2 "need_questions" f1 fd1 ["thing"] (spNeedQs C)) :
    FnOk P w K mg base CX0 4 f (PySem.W.fnOf "by_toil" "by_toil" (defArgs sByToil) (defBody sByToil) (defScope sByToil) .none kV dc pm an (.ref c) ct) ["questions"] (spByToil C [(Pt, "by_toil.<locals>.<lambda>")]) := by
  refine fn_of lk hcd scByToil (fun vs H Q E h => ?_) (fun A outer s H vs Q E hr h => ?_)
  · obtain ⟨l, ps, qf, rfl, _⟩ := h
    rfl
  · obtain ⟨l, ps, qf, rfl, hL, hT, k⟩ := h
    refine ⟨_, pss_cons (ps_expr (pe_call G1.ok (hr.mono (by decide)) (by rfl) G1.mg G1.kp G1.bd .nil pass0 (pa_cons (pv 0) pa_nil)))
      (pss_one (ps_ret (pe_sortL (k0 := 0) (T := [(Pt, "by_toil.<locals>.<lambda>")]) (by rfl) T.sorted (pv 0) TBa rfl (by exact List.mem_singleton.mpr rfl) (by rintro p hp _; rw [List.mem_singleton.mp hp]; rfl) hr
        ⟨rfl, rfl, rfl, by decide +kernel, by decide +kernel, by decide +kernel, fun _ _ _ _ _ _ _ => rfl⟩ ⟨TC.cl, TC.n5, TC.n2, TC.n1⟩ rfl (by decide) (fun _ _ _ _ => rfl) (fun _ => rfl)))), ?_⟩
    refine ⟨_, rfl, l, ps, qf, rfl, hL, fun H1 x1 => ?_⟩
    have hL1 := hL.ext x1
    refine ⟨_, rfl, hT.ext x1, l, ps, fun y => kOf (qf y), rfl, SqL.of hL1.at_, fun y hy => ?_, fun p H2 e2 t2 hp => k p H2 ((ExtN.of x1).trans e2) t2 hp⟩
    obtain ⟨⟨dx, t, hp1, ht⟩, gq⟩ := hL1.it y hy
    exact ⟨⟨dx, _, hp1, fl_toil _ t, fl_matter _ t, fl_name _ t⟩⟩
end
end PK
namespace PK
open PySem L2 K8
/-! ### the stream -/
/-- all but the object at a stays -/
def But (a : Addr) (H H' : Hp) : Prop := ∀ b o, b ≠ a → H b = some o → H' b = some o
theorem But.rfl' {a : Addr} {H : Hp} : But a H H := fun _ _ _ h => h
theorem But.trans {a : Addr} {H H1 H2 : Hp} (x : But a H H1) (y : But a H1 H2) : But a H H2 := fun b o n h => y b o n (x b o n h)
theorem But.of {a : Addr} {H H' : Hp} (e : Ext H H') : But a H H' := fun b o _ h => e b o h
theorem But.ext {a : Addr} {H H1 H2 : Hp} (x : But a H H1) (e : Ext H1 H2) : But a H H2 := x.trans (.of e)
/-- a new object, or one that was new -/
theorem But.new {a : Addr} {H H1 : Hp} (e : But a H H1) {p : Addr} (hp : H p = none) (o : HO) : But a H (upd H1 p o) := fun b u n h => by
  rw [upd_ne (ne_of_none h hp)]
  exact e b u n h
theorem But.upd_ {a : Addr} {H H1 : Hp} (e : But a H H1) (o : HO) : But a H (upd H1 a o) := fun b u n h => by
  rw [upd_ne n]
  exact e b u n h
/-- the stream at a has been asked n times at most -/
def Stm (H : Hp) (a : Addr) (n : Nat) : Prop := ∃ (b : Bool) (cell m : Int) (c : Nat), H a = some (.lst [.bl b, .int cell, .int (c : Nat), .int m]) ∧ 0 ≤ m ∧ m < 1073741824 ∧ c ≤ n
theorem Stm.mono {H : Hp} {a : Addr} {n k : Nat} (h : Stm H a n) (hk : n ≤ k) : Stm H a k := let ⟨b, cell, m, c, h1, h2, h3, h4⟩ := h; ⟨b, cell, m, c, h1, h2, h3, Nat.le_trans h4 hk⟩
theorem Stm.ext {H H' : Hp} {a : Addr} {n : Nat} (h : Stm H a n) (e : Ext H H') : Stm H' a n := let ⟨b, cell, m, c, h1, h2⟩ := h; ⟨b, cell, m, c, e _ _ h1, h2⟩
theorem Stm.ne {H : Hp} {a p : Addr} {n : Nat} (h : Stm H a n) (hp : H p = none) : a ≠ p := let ⟨_, _, _, _, h1, _⟩ := h; ne_of_none h1 hp
theorem Stm.upd_ {H : Hp} {a p : Addr} {n : Nat} (h : Stm H a n) (hp : a ≠ p) (o : HO) : Stm (upd H p o) a n := let ⟨b, cell, m, c, h1, h2⟩ := h; ⟨b, cell, m, c, by rw [upd_ne hp]; exact h1, h2⟩
theorem Stm.has {H : Hp} {a : Addr} {n : Nat} (h : Stm H a n) : H a ≠ none := let ⟨_, _, _, _, h1, _⟩ := h; by rw [h1]; exact fun z => nomatch z
abbrev LIM : Nat := 1000000
def spMixed : Sp := fun vs H Q _ => ∃ n k : Int, vs = [.int n, .int k] ∧ 0 ≤ k ∧ k < 1048576 ∧ ∀ r : Int, 0 ≤ r → r < 1073741824 → Q (.int r) H
def spStream : Sp := fun vs H Q _ => ∃ n k : Int, vs = [.int n, .int k] ∧ 0 ≤ k ∧ k < 1048576 ∧ ∀ a H', H a = none → Ext H H' → Stm H' a 0 → Q (.ref a) H'
def spTake : Sp := fun vs H Q _ => ∃ (a : Addr) (m : Int) (n : Nat), vs = [.ref a, .int m] ∧ Stm H a n ∧ n < LIM ∧ 0 < m ∧ m ≤ 1000000 ∧ ∀ (r : Int) H', 0 ≤ r → r < m → But a H H' → Stm H' a (n + 1) → Q (.int r) H'
theorem scMixed : FnScope ["_law_number", "_law_k"] ["_law_number", "_law_k"] (defScope sMixed) := ⟨rfl, rfl, rfl, by decide +kernel, rfl, by decide +kernel, by decide +kernel⟩
theorem scStream : FnScope ["_law_cell", "_law_k"] ["_law_cell", "_law_k"] (defScope sStream) := ⟨rfl, rfl, rfl, by decide +kernel, rfl, by decide +kernel, by decide +kernel⟩
theorem scTake : FnScope ["_law_stream_here", "_law_many", "_law_number"] ["_law_stream_here", "_law_many"] (defScope sTake) := ⟨rfl, rfl, rfl, by decide +kernel, rfl, by decide +kernel, by decide +kernel⟩
section
variable {P : Program} {w : World} {K : PySem.W.Frag} {mg : Str → Option Value} {base : Heap}
theorem ok_mixed {f : Addr} {fd : FuncData} (F : Fun K "_law_mixed" "_law_mixed" sMixed f fd) : FnOk P w K mg base CX0 1 f fd ["_law_number", "_law_k"] spMixed := by
  refine F.ok scMixed (fun vs H Q E h => ?_) (fun cdv A outer s H vs Q E hr h => ?_)
  · obtain ⟨n, k, rfl, _⟩ := h
    rfl
  · obtain ⟨n, k, rfl, h0, h1, hk⟩ := h
    refine ⟨_, pss_cons (ps_set (i := 0) scMixed.nd rfl (Or.inl rfl) (pe_op op_mod (pe_op op_pow (pe_op op_add (pe_op op_add (pe_op op_add (pe_op op_mod (pv 0) pe_int) (pe_op op_mul (pe_op op_mul pe_int (pv 1)) (pv 1))) (pe_op op_mul pe_int (pv 1))) pe_int) pe_int) pe_int))
      (pss_one (ps_ret (pe_op op_fdivN (pe_op op_mod (pe_op op_mul (pv 0) (pe_op op_add pe_int (pe_op op_mul pe_int (pv 1)))) pe_int) pe_int))), ?_⟩
    have q1 := Int.emod_nonneg n (by decide : (2147483647 : Int) ≠ 0)
    have q2 := Int.emod_lt_of_pos n (by decide : (0 : Int) < 2147483647)
    have q3 : 0 ≤ k * k := Int.mul_nonneg h0 h0
    have q4 : k * k ≤ 1048576 * 1048576 := Int.mul_le_mul (by omega) (by omega) h0 (by omega)
    have e : 7919 * k * k = 7919 * (k * k) := Int.mul_assoc _ _ _
    refine ⟨_, rfl, _, _, rfl, rfl, (by show (0 : Int) < 2147483647; decide), _, rfl, _, _, rfl, rfl, .inl (by omega), _, rfl, _, _, rfl, rfl, .inl (by omega), _, _, rfl, rfl, _, rfl, _, _, rfl, rfl, .inl (by omega), _, _, rfl, rfl, _, _, rfl, rfl, _, _, rfl, rfl, ?_, _, _, rfl, rfl, (by show (0 : Int) < 2147483629; decide), ?_⟩
    · refine ⟨by decide, by decide, ?_⟩
      show (n % 2147483647 + 7919 * k * k + 31 * k + 5 : Int).natAbs < _
      rw [e]
      omega
    generalize (n % 2147483647 + 7919 * k * k + 31 * k + 5 : Int) ^ ((5 : Int).toNat) = z
    have r1 := Int.emod_nonneg z (by decide : (2147483629 : Int) ≠ 0)
    have r2 := Int.emod_lt_of_pos z (by decide : (0 : Int) < 2147483629)
    show gName 0 (V.int (z % 2147483629)) _ _ _
    generalize z % 2147483629 = y at *
    refine ⟨_, rfl, _, rfl, _, _, rfl, rfl, .inl (by omega), _, _, rfl, rfl, _, _, rfl, rfl, .inl (by omega), _, _, rfl, rfl, (by show (0 : Int) < 2147483587; decide), _, _, rfl, rfl, ⟨by decide, by decide⟩, ?_⟩
    have s1 := Int.emod_nonneg (y * (69621 + 2 * k)) (by decide : (2147483587 : Int) ≠ 0)
    have s2 := Int.emod_lt_of_pos (y * (69621 + 2 * k)) (by decide : (0 : Int) < 2147483587)
    show Q (.int ((y * (69621 + 2 * k) % 2147483587).fdiv 7)) _
    rw [Int.fdiv_eq_ediv_of_nonneg _ (by decide)]
    exact hk _ (by omega) (by omega)
theorem ok_stream {f f1 : Addr} {fd fd1 : FuncData} (F : Fun K "_law_stream" "_law_stream" sStream f fd) (G1 : Callee P w K mg base CX0 1 "_law_mixed" f1 fd1 ["_law_number", "_law_k"] spMixed) : FnOk P w K mg base CX0 2 f fd ["_law_cell", "_law_k"] spStream := by
  refine F.ok scStream (fun vs H Q E h => ?_) (fun cdv A outer s H vs Q E hr h => ?_)
  · obtain ⟨n, k, rfl, _⟩ := h
    rfl
  · obtain ⟨n, k, rfl, h0, h1, hk⟩ := h
    refine ⟨_, pss_one (ps_ret (pe_lst (pa_cons (pe_cmpR op_ge (pv 0) (pe_op op_pow pe_int pe_int) (nomark _)) (pa_cons (pv 0) (pa_cons pe_int (pa_cons (pe_call G1.ok hr (by rfl) G1.mg G1.kp G1.bd .nil pass0 (pa_cons (pv 0) (pa_cons (pv 1) pa_nil))) pa_nil)))))), ?_⟩
    refine ⟨_, rfl, _, _, rfl, rfl, ⟨by decide, by decide, by decide⟩, _, _, rfl, rfl, _, rfl, _, rfl, _, rfl, n, k, rfl, h0, h1, fun r r0 r1 => ⟨by show 4 ≤ sizeLine; decide, fun a ha => ?_⟩⟩
    exact hk a _ ha (Ext.new Ext.rfl' ha _) ⟨_, n, r, 0, upd_same, r0, r1, Nat.le_refl _⟩
theorem ok_take {f f1 : Addr} {fd fd1 : FuncData} (F : Fun K "_law_take" "_law_take" sTake f fd) (G1 : Callee P w K mg base CX0 1 "_law_mixed" f1 fd1 ["_law_number", "_law_k"] spMixed) : FnOk P w K mg base CX0 2 f fd ["_law_stream_here", "_law_many"] spTake := by
  refine F.ok scTake (fun vs H Q E h => ?_) (fun cdv A outer s H vs Q E hr h => ?_)
  · obtain ⟨a, m, n, rfl, _⟩ := h
    rfl
  · obtain ⟨a, m, n, rfl, ⟨b, cell, mx, c, ha, m0, m1, hc⟩, hn, hm, hm2, hk⟩ := h
    refine ⟨_, pss_cons (ps_asg (pe_op op_add (pe_ix ix_list (pv 0) pe_int (fun _ _ => rfl)) pe_int) (pg_sub (pv 0) pe_int set_list))
      (pss_cons (ps_if (PW.pt (pw_or (pt_not (pt_val (pe_ix ix_list (pv 0) pe_int (fun _ _ => rfl))))
        (pw_or (pt_cmpR op_in_seq (pe_ix ix_list (pv 0) pe_int (fun _ _ => rfl)) (pe_tup (pa_cons pe_int (pa_cons (pe_un un_neg pe_int) pa_nil))) (by rfl)) (pw_or1 (pt_cmpR op_gt (pe_ix ix_list (pv 0) pe_int (fun _ _ => rfl)) pe_int (nomark _))))))
        (pss_one (ps_ret (pe_op op_mod (pe_op op_fdivN (pe_call G1.ok hr (by rfl) G1.mg G1.kp G1.bd .nil pass0 (pa_cons (pe_op op_add (pe_ix ix_list (pv 0) pe_int (fun _ _ => rfl)) (pe_op op_mul pe_int (pe_ix ix_list (pv 0) pe_int (fun _ _ => rfl)))) (pa_cons (pe_ix ix_list (pv 0) pe_int (fun _ _ => rfl)) pa_nil))) pe_int) (pv 1)))) pss_nil)
      (pss_cons (ps_set (i := 2) scTake.nd rfl (Or.inl rfl) (pe_op op_mod (pe_ix ix_list (pv 0) pe_int (fun _ _ => rfl)) (pv 1)))
      (pss_cons (ps_asg (pe_op op_fdivN (pe_ix ix_list (pv 0) pe_int (fun _ _ => rfl)) (pv 1)) (pg_sub (pv 0) pe_int set_list))
      (pss_one (ps_ret (pv 2)))))), ?_⟩
    have hn' : n < 1000000 := hn
    have at2 : ∀ (x0 x1 x2 x3 : V), atI [x0, x1, x2, x3] 2 = some x2 := fun _ _ _ _ => atI_nat (j := 2) rfl
    have at0 : ∀ (x0 x1 x2 x3 : V), atI [x0, x1, x2, x3] 0 = some x0 := fun _ _ _ _ => atI_nat (j := 0) rfl
    have at1 : ∀ (x0 x1 x2 x3 : V), atI [x0, x1, x2, x3] 1 = some x1 := fun _ _ _ _ => atI_nat (j := 1) rfl
    have at3 : ∀ (x0 x1 x2 x3 : V), atI [x0, x1, x2, x3] 3 = some x3 := fun _ _ _ _ => atI_nat (j := 3) rfl
    refine ⟨_, rfl, a, _, _, _, rfl, rfl, SqL.of ha, at2 _ _ _ _, _, _, rfl, rfl, _, rfl, a, _, _, 2, rfl, rfl, ha, rfl, ?_⟩
    have x1 := But.upd_ (But.rfl' (a := a) (H := H)) (.lst [.bl b, .int cell, .int ((c : Nat) + 1), .int mx])
    have h1 : upd H a (.lst [.bl b, .int cell, .int ((c : Nat) + 1), .int mx]) a = some (.lst [.bl b, .int cell, .int ((c : Nat) + 1), .int mx]) := upd_same
    show tSeq _ _ _ _ (upd H a (.lst [.bl b, .int cell, .int ((c : Nat) + 1), .int mx]))
    generalize upd H a (.lst [.bl b, .int cell, .int ((c : Nat) + 1), .int mx]) = H1 at *
    have key : ∀ R : Bool → Hp → Prop, (∀ cc H2, Ext H1 H2 → R cc H2) → tOr (tNot (tB (tOp (rIxL K) (tVar 0) (tC (.int 0))))) (tOr (tTest (tOp (rIn K false) (tOp (rIxL K) (tVar 0) (tC (.int 1))) (tTup (tCons (tC (.int 0)) (tCons (tUn (rU fun i => V.int (-i)) (tC (.int 1))) tNil)))))
        (tTest (tOp (rI0 fun i j => V.bl (decide (j < i))) (tOp (rIxL K) (tVar 0) (tC (.int 2))) (tC (.int 60))))) [some (.ref a), some (.int m), none] H1 R := by
      intro R kR
      refine ⟨_, rfl, a, _, _, _, rfl, rfl, SqL.of h1, at0 _ _ _ _, b, rfl, ?_⟩
      cases b with
      | false => exact iteT (kR _ _ Ext.rfl')
      | true =>
        refine iteF ⟨_, rfl, a, _, _, _, rfl, rfl, SqL.of h1, at1 _ _ _ _, _, rfl, by show 2 ≤ sizeLine; decide, fun p np => ?_⟩
        have e2 : Ext H1 (upd H1 p (.tup [.int 0, .int (-1)])) := Ext.new Ext.rfl' np _
        refine ⟨p, _, rfl, .inr (SqT.of upd_same), rfl, rfl, _, rfl, ?_⟩
        refine ite2 (fun _ => kR _ _ e2) (fun _ => ?_)
        exact ⟨_, rfl, a, _, _, _, rfl, rfl, SqL.of (e2 _ _ h1), at2 _ _ _ _, _, _, rfl, rfl, _, rfl, kR _ _ e2⟩
    refine key _ fun cc H2 e2 => ?_
    have h2 := e2 _ _ h1
    have x2 := x1.ext e2
    cases cc with
    | true =>
      refine iteT ⟨_, rfl, a, _, _, _, rfl, rfl, SqL.of h2, at3 _ _ _ _, _, rfl, a, _, _, _, rfl, rfl, SqL.of h2, at2 _ _ _ _, _, _, rfl, rfl, .inl (by omega), _, _, rfl, rfl, ?_⟩
      refine ⟨_, rfl, a, _, _, _, rfl, rfl, SqL.of h2, at2 _ _ _ _, _, _, rfl, by omega, by omega, fun r r0 r1 => ?_⟩
      refine ⟨_, _, rfl, rfl, ⟨by decide, by decide⟩, _, rfl, _, _, rfl, rfl, hm, ?_⟩
      exact hk _ _ (Int.emod_nonneg _ (by omega)) (Int.emod_lt_of_pos _ hm) x2 ⟨b, cell, mx, c + 1, h2, m0, m1, by omega⟩
    | false =>
      refine iteF ⟨_, rfl, a, _, _, _, rfl, rfl, SqL.of h2, at1 _ _ _ _, _, rfl, _, _, rfl, rfl, hm, ?_⟩
      refine ⟨_, rfl, a, _, _, _, rfl, rfl, SqL.of h2, at1 _ _ _ _, _, rfl, _, _, rfl, rfl, ⟨by omega, by omega⟩, _, rfl, a, _, _, 1, rfl, rfl, h2, rfl, ?_⟩
      exact ⟨_, rfl, hk _ _ (Int.emod_nonneg _ (by omega)) (Int.emod_lt_of_pos _ hm) (x2.upd_ _) ⟨b, cell.fdiv m, mx, c + 1, upd_same, m0, m1, by omega⟩⟩
end
end PK
namespace PK
open PySem L2 K8
/-! ### names and texts from the stream -/
def one (c : Nat) : Str := ⟨#[c]⟩
theorem joinL_nil : ∀ cs : List Nat, TL.joinL [] (cs.map fun c => [c]) = cs
  | [] => rfl
  | [c] => rfl
  | c :: d :: r => by
    show [c] ++ ([] ++ TL.joinL [] ((d :: r).map fun c => [c])) = c :: d :: r
    rw [joinL_nil (d :: r)]
    rfl
theorem join_codes (cs : List Nat) : (Txt.join "" (cs.map one)).cps.toList = cs := by
  rw [TL.join_eq]
  refine (TL.tl_join "" (cs.map one)).trans ?_
  rw [List.map_map]
  exact joinL_nil cs
theorem join_sum (cs : List Nat) : ((cs.map one).map (·.length)).sum + (cs.map one).length * ("" : Str).length = cs.length := by
  have e : ("" : Str).length = 0 := by decide +kernel
  rw [e, Nat.mul_zero, Nat.add_zero]
  induction cs with
  | nil => rfl
  | cons c cs ih =>
    rw [List.map_cons, List.map_cons, List.sum_cons, ih, List.length_cons]
    show 1 + _ = _
    omega
theorem len_list (x : Str) : x.length = x.cps.toList.length := by simp [Str.length]
def spNameBy : Sp := fun vs H Q _ => ∃ (a : Addr) (n : Nat), vs = [.ref a] ∧ Stm H a n ∧ n + 20 ≤ LIM ∧ ∀ x H', NameOk x → But a H H' → Stm H' a (n + 9) → Q (.str x) H'
def spTextBy : Sp := fun vs H Q _ => ∃ (a : Addr) (n : Nat), vs = [.ref a] ∧ Stm H a n ∧ n + 40 ≤ LIM ∧ ∀ x H', TextOk x → But a H H' → Stm H' a (n + 34) → Q (.str x) H'
theorem scNameBy : FnScope ["_law_stream_here", "_law_letters", "_law_turn"] ["_law_stream_here"] (defScope sNameBy) := ⟨rfl, rfl, rfl, by decide +kernel, rfl, by decide +kernel, by decide +kernel⟩
theorem scTextBy : FnScope ["_law_stream_here", "_law_some", "_law_signs", "_law_size", "_law_turn", "_law_text"] ["_law_stream_here"] (defScope sTextBy) := ⟨rfl, rfl, rfl, by decide +kernel, rfl, by decide +kernel, by decide +kernel⟩
theorem But.free {a p : Addr} {H H' : Hp} (x : But a H H') (n : a ≠ p) (h : H' p = none) : H p = none := by
  cases q : H p with
  | none => rfl
  | some o =>
    rw [x p o n.symm q] at h
    cases h
section
variable {P : Program} {w : World} {K : PySem.W.Frag} {mg : Str → Option Value} {base : Heap}
theorem ok_nameby {f f1 : Addr} {fd fd1 : FuncData} (F : Fun K "_law_name_by" "_law_name_by" sNameBy f fd) (T : T0 mg) (G1 : Callee P w K mg base CX0 2 "_law_take" f1 fd1 ["_law_stream_here", "_law_many"] spTake) : FnOk P w K mg base CX0 3 f fd ["_law_stream_here"] spNameBy := by
  refine F.ok scNameBy (fun vs H Q E h => ?_) (fun cdv A outer s H vs Q E hr h => ?_)
  · obtain ⟨a, n, rfl, _⟩ := h
    rfl
  · obtain ⟨a, n, rfl, hS, hn, k⟩ := h
    have hn' : n + 20 ≤ 1000000 := hn
    refine ⟨_, pss_cons (ps_set (i := 1) scNameBy.nd rfl (Or.inr rfl) pe_str)
      (pss_one (ps_ret (pe_join pe_str (pe_lc (own := [("_law_turn", 2)]) (g := gName 2) (tt := tYes) rfl scNameBy.nd (pi_range1 (by rfl) T.range (pa_cons (pe_op op_add pe_int (pe_call G1.ok hr (by rfl) G1.mg G1.kp G1.bd .nil pass0 (pa_cons (pv 0) (pa_cons pe_int pa_nil)))) pa_nil))
        (blkOk_by (N := ["_law_stream_here", "_law_letters", "_law_turn"]) (sc := defScope sNameBy) (by decide +kernel)) (fun _ _ _ _ _ => pg_name (i := 2) scNameBy.nd rfl (Or.inl rfl)) (fun _ _ _ _ _ => pts_nil)
        (fun _ _ _ _ _ => pe_ix ix_str (pv 1) (pe_call G1.ok hr (by rfl) G1.mg G1.kp G1.bd .nil pass0 (pa_cons (pv 0) (pa_cons pe_int pa_nil))) (fun _ _ => rfl)))))), ?_⟩
    refine ⟨⟨_, rfl⟩, _, rfl, a, 8, n, rfl, hS, (by show n < 1000000; omega), by decide, by decide, fun r H1 r0 r1 b1 S1 => ?_⟩
    refine ⟨_, _, rfl, rfl, _, rfl, by omega, by omega, fun D hD => ?_⟩
    have hDa := S1.ne hD
    refine lc_range (lo := 0) (n := (1 + r).toNat) (fun i H' => But a H H' ∧ Stm H' a (n + 1 + i) ∧ ∃ cs : List Nat, cs.length = i ∧ (∀ c ∈ cs, c ∈ letT.cps.toList) ∧ H' D = some (.lst (cs.map fun c => V.str (one c))))
      ⟨b1.new (b1.free hDa hD) _, S1.upd_ hDa _, [], rfl, by simp, upd_same⟩ ?_ ?_
    · rintro i H2 hi ⟨b2, S2, cs, hcl, hcm, hL⟩
      refine ⟨rfl, yesT ?_⟩
      refine ⟨_, rfl, _, rfl, a, 26, n + 1 + i, rfl, S2, (by show n + 1 + i < 1000000; omega), by decide, by decide, fun z H3 z0 z1 b3 S3 => ?_⟩
      have hz : z = ((z.toNat : Nat) : Int) := by omega
      have hzl : z.toNat < letT.cps.toList.length := by
        have : letT.cps.toList.length = 26 := by decide +kernel
        omega
      refine ⟨letT, z, letT.cps.toList[z.toNat], rfl, rfl, by decide +kernel, ?_, _, b3 D _ hDa.symm hL, ?_, ?_⟩
      · conv => lhs; rw [hz]
        exact atI_nat (by simp)
      · rw [List.length_map]
        have : 1000 < sizeLine := by decide
        omega
      · have hD3 : H D = none := b1.free hDa hD
        refine ⟨(b2.trans b3).new hD3 _, (S3.upd_ hDa _).mono (by omega), cs ++ [letT.cps.toList[z.toNat]], by simp [hcl], ?_, ?_⟩
        · intro c hc
          rcases List.mem_append.mp hc with hc | hc
          · exact hcm c hc
          · rw [List.mem_singleton.mp hc]
            exact List.getElem_mem hzl
        · rw [upd_same, List.map_append]
          rfl
    · rintro H2 ⟨b2, S2, cs, hcl, hcm, hL⟩
      refine ⟨"", D, cs.map one, rfl, rfl, .inl (SqL.of ?_), ?_, k _ _ ?_ b2 (S2.mono (by omega))⟩
      · rw [hL, List.map_map]
        rfl
      · rw [join_sum]
        omega
      · have e := join_codes cs
        refine ⟨?_, ?_, ?_⟩
        · rw [len_list, e]
          omega
        · rw [len_list, e]
          omega
        · rw [e]
          exact hcm
theorem ab_in : ∀ c ∈ ("ab 1" : Str).cps.toList, c ∈ sgnT.cps.toList := by decide +kernel
theorem x_in : ∀ c ∈ ("x " : Str).cps.toList, c ∈ sgnT.cps.toList := by decide +kernel
theorem zero_ok : TextOk "0" := ⟨⟨by decide +kernel, strip_fix ⟨by decide +kernel, by decide +kernel⟩⟩, by decide +kernel, by decide +kernel⟩
theorem pick3 {r : Int} (h0 : 0 ≤ r) (h1 : r < 3) : ∃ sg : Str, atI [V.str sgnT, V.str "ab 1", V.str "x "] r = some (.str sg) ∧ 1 ≤ sg.length ∧ sg.length ≤ 1000 ∧ ∀ c ∈ sg.cps.toList, c ∈ sgnT.cps.toList := by
  have h : r = ((0 : Nat) : Int) ∨ r = ((1 : Nat) : Int) ∨ r = ((2 : Nat) : Int) := by omega
  rcases h with rfl | rfl | rfl
  · exact ⟨_, atI_nat rfl, by decide +kernel, by decide +kernel, fun c h => h⟩
  · exact ⟨_, atI_nat rfl, by decide +kernel, by decide +kernel, ab_in⟩
  · exact ⟨_, atI_nat rfl, by decide +kernel, by decide +kernel, x_in⟩
theorem pick4 {r z : Int} (h0 : 0 ≤ r) (h1 : r < 4) (z0 : 1 ≤ z) (z1 : z ≤ 30) : ∃ sz : Int, atI [V.int 1, V.int 2, V.int 30, V.int z] r = some (.int sz) ∧ 1 ≤ sz ∧ sz ≤ 30 := by
  have h : r = ((0 : Nat) : Int) ∨ r = ((1 : Nat) : Int) ∨ r = ((2 : Nat) : Int) ∨ r = ((3 : Nat) : Int) := by omega
  rcases h with rfl | rfl | rfl | rfl
  · exact ⟨_, atI_nat rfl, by decide, by decide⟩
  · exact ⟨_, atI_nat rfl, by decide, by decide⟩
  · exact ⟨_, atI_nat rfl, by decide, by decide⟩
  · exact ⟨_, atI_nat rfl, z0, z1⟩
theorem ok_textby {f f1 : Addr} {fd fd1 : FuncData} (F : Fun K "_law_text_by" "_law_text_by" sTextBy f fd) (T : T0 mg) (G1 : Callee P w K mg base CX0 2 "_law_take" f1 fd1 ["_law_stream_here", "_law_many"] spTake) : FnOk P w K mg base CX0 3 f fd ["_law_stream_here"] spTextBy := by
  refine F.ok scTextBy (fun vs H Q E h => ?_) (fun cdv A outer s H vs Q E hr h => ?_)
  · obtain ⟨a, n, rfl, _⟩ := h
    rfl
  · obtain ⟨a, n, rfl, hS, hn, k⟩ := h
    have hn' : n + 40 ≤ 1000000 := hn
    refine ⟨_, pss_cons (ps_set (i := 1) scTextBy.nd rfl (Or.inl rfl) pe_str)
      (pss_cons (ps_set (i := 2) scTextBy.nd rfl (Or.inr rfl) (pe_ix ix_list (pe_lst (pa_cons (pv 1) (pa_cons pe_str (pa_cons pe_str pa_nil)))) (pe_call G1.ok hr (by rfl) G1.mg G1.kp G1.bd .nil pass0 (pa_cons (pv 0) (pa_cons pe_int pa_nil))) (fun _ _ => rfl)))
      (pss_cons (ps_set (i := 3) scTextBy.nd rfl (Or.inl rfl) (pe_ix ix_list (pe_lst (pa_cons pe_int (pa_cons pe_int (pa_cons pe_int (pa_cons (pe_op op_add pe_int (pe_call G1.ok hr (by rfl) G1.mg G1.kp G1.bd .nil pass0 (pa_cons (pv 0) (pa_cons pe_int pa_nil)))) pa_nil)))))
        (pe_call G1.ok hr (by rfl) G1.mg G1.kp G1.bd .nil pass0 (pa_cons (pv 0) (pa_cons pe_int pa_nil))) (fun _ _ => rfl)))
      (pss_cons (ps_set (i := 5) scTextBy.nd rfl (Or.inl rfl) (pe_bm PySem.F.plainAttrs_str PySem.F.slot_str_strip PySem.F.type_str_strip mt_stripChars (pe_join pe_str (pe_lc (own := [("_law_turn", 4)]) (g := gName 4) (tt := tYes) rfl scTextBy.nd (pi_range1 (by rfl) T.range (pa_cons (pv 3) pa_nil))
        (blkOk_by (N := ["_law_stream_here", "_law_some", "_law_signs", "_law_size", "_law_turn", "_law_text"]) (sc := defScope sTextBy) (by decide +kernel)) (fun _ _ _ _ _ => pg_name (i := 4) scTextBy.nd rfl (Or.inl rfl)) (fun _ _ _ _ _ => pts_nil)
        (fun _ _ _ _ _ => pe_ix ix_str (pv 2) (pe_call G1.ok hr (by rfl) G1.mg G1.kp G1.bd .nil pass0 (pa_cons (pv 0) (pa_cons (pe_callB call_len_str (by rfl) T.len PySem.boot_len (pa_cons (pv 2) pa_nil)) pa_nil))) (fun _ _ => rfl)))) (pa_cons pe_str pa_nil)))
      (pss_one (ps_ret (pe_ifExp (pt_cmpR op_ne (pv 5) pe_str (nomark _)) (pv 5) pe_str)))))), ?_⟩
    refine ⟨_, rfl, by show 3 ≤ sizeLine; decide, fun l hl => ?_⟩
    have hla := hS.ne hl
    refine ⟨_, rfl, a, 3, n, rfl, hS.upd_ hla _, (by show n < 1000000; omega), by decide, by decide, fun r H1 r0 r1 b1 S1 => ?_⟩
    have b01 : But a H H1 := (But.new But.rfl' hl _).trans b1
    obtain ⟨sg, p1, p2, p3, p4⟩ := pick3 r0 r1
    refine ⟨l, _, _, _, rfl, rfl, SqL.of (b1 l _ hla.symm upd_same), p1, ?_⟩
    refine ⟨_, rfl, a, 30, n + 1, rfl, S1, (by show n + 1 < 1000000; omega), by decide, by decide, fun z H2 z0 z1 b2 S2 => ?_⟩
    refine ⟨_, _, rfl, rfl, by show 4 ≤ sizeLine; decide, fun l2 hl2 => ?_⟩
    have hla2 := S2.ne hl2
    refine ⟨_, rfl, a, 4, n + 1 + 1, rfl, S2.upd_ hla2 _, (by show n + 1 + 1 < 1000000; omega), by decide, by decide, fun y H3 y0 y1 b3 S3 => ?_⟩
    have b03 : But a H H3 := (b01.trans b2).trans ((But.new But.rfl' hl2 _).trans b3)
    obtain ⟨sz, q1, q2, q3⟩ := pick4 y0 y1 (z := 1 + z) (by omega) (by omega)
    refine ⟨l2, _, _, _, rfl, rfl, SqL.of (b3 l2 _ hla2.symm upd_same), q1, ?_⟩
    refine ⟨⟨_, rfl⟩, _, rfl, sz, rfl, by omega, by omega, fun D hD => ?_⟩
    have hDa := S3.ne hD
    have hD0 := b03.free hDa hD
    have hsz : sg.length ≤ sizeLine := len1000 p3
    refine lc_range (lo := 0) (n := sz.toNat) (fun i H' => But a H H' ∧ Stm H' a (n + 3 + i) ∧ ∃ cs : List Nat, cs.length = i ∧ (∀ c ∈ cs, c ∈ sgnT.cps.toList) ∧ H' D = some (.lst (cs.map fun c => V.str (one c))))
      ⟨b03.new hD0 _, S3.upd_ hDa _, [], rfl, by simp, upd_same⟩ ?_ ?_
    · rintro i H4 hi ⟨b4, S4, cs, hcl, hcm, hL⟩
      refine ⟨rfl, yesT ?_⟩
      refine ⟨_, rfl, _, rfl, _, rfl, _, rfl, hsz, a, (sg.length : Nat), n + 3 + i, rfl, S4, (by show n + 3 + i < 1000000; omega), by omega, by omega, fun x H5 x0 x1 b5 S5 => ?_⟩
      have hz : x = ((x.toNat : Nat) : Int) := by omega
      have hzl : x.toNat < sg.cps.toList.length := by
        rw [← len_list]
        omega
      refine ⟨sg, x, sg.cps.toList[x.toNat], rfl, rfl, hsz, ?_, _, b5 D _ hDa.symm hL, ?_, ?_⟩
      · conv => lhs; rw [hz]
        exact atI_nat (by simp)
      · rw [List.length_map]
        have : 1000 < sizeLine := by decide
        omega
      · refine ⟨(b4.trans b5).new hD0 _, (S5.upd_ hDa _).mono (by omega), cs ++ [sg.cps.toList[x.toNat]], by simp [hcl], ?_, ?_⟩
        · intro c hc
          rcases List.mem_append.mp hc with hc | hc
          · exact hcm c hc
          · rw [List.mem_singleton.mp hc]
            exact p4 _ (List.getElem_mem hzl)
        · rw [upd_same, List.map_append]
          rfl
    · rintro H4 ⟨b4, S4, cs, hcl, hcm, hL⟩
      refine ⟨"", D, cs.map one, rfl, rfl, .inl (SqL.of ?_), ?_, rfl, ?_⟩
      · rw [hL, List.map_map]
        rfl
      · rw [join_sum]
        omega
      have e := join_codes cs
      generalize hj : Txt.join "" (cs.map one) = jt at *
      have jl : jt.length ≤ 30 := by
        rw [len_list, e]
        omega
      refine ⟨jt, " ", rfl, rfl, len1000 (by omega), ?_⟩
      have hcl2 : Clean (Txt.stripChars jt " ") := clean_strip (by rw [e]; exact hcm)
      have hle := PyProof.Rows.len_stripChars jt " "
      generalize Txt.stripChars jt " " = st at *
      refine ⟨_, rfl, rfl, _, rfl, ?_⟩
      have e0 : Str.ofString "" = Str.empty := by decide +kernel
      rw [decide_strV, e0]
      by_cases h0 : st = Str.empty
      · rw [decide_eq_true h0]
        exact iteF (k _ _ zero_ok b4 (S4.mono (by omega)))
      · rw [decide_eq_false h0]
        refine iteT ⟨_, rfl, k _ _ ⟨hcl2, ?_, by omega⟩ b4 (S4.mono (by omega))⟩
        by_cases hl0 : 1 ≤ st.length
        · exact hl0
        · exact absurd (TL.ext_tl (List.length_eq_zero_iff.mp (by rw [← len_tl']; omega))) h0
end
end PK
namespace PK
open PySem L2 K8
/-! ### answers from the stream -/
theorem ph : ∀ (ys ss : List Str), ss.Nodup → ss.length ≤ (ss.filter fun s => !decide (s ∈ ys)).length + ys.length
  | [], ss, _ => by
    rw [List.filter_eq_self.mpr fun s _ => by simp]
    exact Nat.le_add_right _ _
  | y :: ys, ss, h => by
    have ih := ph ys (ss.erase y) (h.erase y)
    have e : (ss.erase y).filter (fun s => !decide (s ∈ ys)) = ss.filter fun s => !decide (s ∈ y :: ys) := by
      rw [h.erase_eq_filter, List.filter_filter]
      refine List.filter_congr fun s _ => ?_
      by_cases h1 : s = y <;> simp [h1]
    rw [e] at ih
    have hl := List.length_erase (a := y) (l := ss)
    rw [List.length_cons]
    split at hl <;> omega
theorem inV_str (t : Str) (ys : List Str) : inV (.str t) (ys.map V.str) = decide (t ∈ ys) := by
  unfold inV
  rw [Bool.eq_iff_iff, List.any_eq_true]
  simp only [List.mem_map, decide_eq_true_eq]
  constructor
  · rintro ⟨x, ⟨y, hy, rfl⟩, h⟩
    have : y = t := by simpa [eqV] using h
    rw [← this]
    exact hy
  · intro h
    exact ⟨.str t, ⟨t, h, rfl⟩, by simp [eqV]⟩
theorem flat_strs' (ys : List Str) : (ys.map V.str).all flatV = true := by
  rw [List.all_eq_true]
  intro x hx
  obtain ⟨y, _, rfl⟩ := List.mem_map.mp hx
  rfl
theorem one_ok {c : Nat} (h : c ∈ sgnT.cps.toList) (h32 : c ≠ 32) : TextOk (one c) := by
  refine ⟨⟨fun d hd => ?_, strip_fix ⟨?_, ?_⟩⟩, Nat.le_refl 1, by show 1 ≤ 30; decide⟩
  · have : d = c := by simpa [one] using hd
    rw [this]
    exact h
  · simpa [one] using h32
  · simpa [one] using h32
theorem dig_in : ∀ c ∈ ("0123456" : Str).cps.toList, c ∈ sgnT.cps.toList ∧ c ≠ 32 := by decide +kernel
theorem al_in : ∀ c ∈ ("abcdefghijkl" : Str).cps.toList, c ∈ sgnT.cps.toList ∧ c ≠ 32 := by decide +kernel
theorem dig_nd : (("0123456" : Str).cps.toList.map one).Nodup := by decide +kernel
/-- two ways to a value of one kind -/
theorem if_vals {c : Bool} {ta tb : TE} {σ : L2.St} {H : Hp} {Q : VK} (R : V → Hp → Prop) (h1 : c = true → ∀ Q' : VK, (∀ v H', R v H' → Q' v H') → ta σ H Q') (h2 : c = false → ∀ Q' : VK, (∀ v H', R v H' → Q' v H') → tb σ H Q') (q : ∀ v H', R v H' → Q v H') :
    if c = true then ta σ H Q else tb σ H Q := by
  cases c with
  | true => exact iteT (h1 rfl Q q)
  | false => exact iteF (h2 rfl Q q)
theorem ifs_vals {c : Bool} {t u : TS} {D : Ends} {σ : L2.St} {H : Hp} (R : L2.St → Hp → Prop) (h1 : c = true → ∀ D' : Ends, (∀ σ' H', R σ' H' → D'.nx σ' H') → t D' σ H) (h2 : c = false → ∀ D' : Ends, (∀ σ' H', R σ' H' → D'.nx σ' H') → u D' σ H)
    (q : ∀ σ' H', R σ' H' → D.nx σ' H') : if c = true then t D σ H else u D σ H := by
  cases c with
  | true => exact iteT (h1 rfl D q)
  | false => exact iteF (h2 rfl D q)
def spAnswersBy : Sp := fun vs H Q _ => ∃ (a : Addr) (n : Nat), vs = [.ref a] ∧ Stm H a n ∧ n + 300 ≤ LIM ∧
  ∀ t (ys : List Str) H', FTup H' t (ys.map V.str) → 2 ≤ ys.length → ys.length ≤ 6 → (∀ y ∈ ys, TextOk y) → ys.Nodup → But a H H' → Stm H' a (n + 250) → Q (.ref t) H'
theorem scAnswersBy : FnScope ["_law_stream_here", "_law_found", "_law_turn", "_law_text", "_law_sign"] ["_law_stream_here"] (defScope sAnswersBy) := ⟨rfl, rfl, rfl, by decide +kernel, rfl, by decide +kernel, by decide +kernel⟩
section
variable {P : Program} {w : World} {K : PySem.W.Frag} {mg : Str → Option Value} {base : Heap}
theorem ok_answersby {f f1 f2 : Addr} {fd fd1 fd2 : FuncData} (F : Fun K "_law_answers_by" "_law_answers_by" sAnswersBy f fd) (T : T0 mg) (G1 : Callee P w K mg base CX0 2 "_law_take" f1 fd1 ["_law_stream_here", "_law_many"] spTake)
    (G2 : Callee P w K mg base CX0 3 "_law_text_by" f2 fd2 ["_law_stream_here"] spTextBy) : FnOk P w K mg base CX0 4 f fd ["_law_stream_here"] spAnswersBy := by
  refine F.ok scAnswersBy (fun vs H Q E h => ?_) (fun cdv A outer s H vs Q E hr h => ?_)
  · obtain ⟨a, n, rfl, _⟩ := h
    rfl
  · obtain ⟨a, n, rfl, hS, hn, k⟩ := h
    have hn' : n + 300 ≤ 1000000 := hn
    have hr2 : Room 2 _ := hr.mono (by decide)
    refine ⟨_, pss_cons (ps_set (i := 1) scAnswersBy.nd rfl (Or.inr rfl) (pe_lst pa_nil))
      (pss_cons (ps_for PassesOwn.never rfl (pi_range1 (by rfl) T.range (pa_cons (pe_op op_add pe_int (pe_call G1.ok hr2 (by rfl) G1.mg G1.kp G1.bd .nil pass0 (pa_cons (pv 0) (pa_cons pe_int pa_nil)))) pa_nil)) (pg_name (i := 2) scAnswersBy.nd rfl (Or.inl rfl))
        (pss_cons (ps_set (i := 3) scAnswersBy.nd rfl (Or.inl rfl) (pe_ifExp (pt_cmpR op_eq (pe_call G1.ok hr2 (by rfl) G1.mg G1.kp G1.bd .nil pass0 (pa_cons (pv 0) (pa_cons pe_int pa_nil))) pe_int (nomark _))
            (pe_call G2.ok hr (by rfl) G2.mg G2.kp G2.bd .nil pass0 (pa_cons (pv 0) pa_nil)) (pe_ix ix_str pe_str (pe_call G1.ok hr2 (by rfl) G1.mg G1.kp G1.bd .nil pass0 (pa_cons (pv 0) (pa_cons pe_int pa_nil))) (fun _ _ => rfl))))
        (pss_cons (ps_if (pt_cmpR op_in_seq (pv 3) (pv 1) (by rfl)) (pss_one (ps_set (i := 3) scAnswersBy.nd rfl (Or.inl rfl) (pe_ix ix_list (pe_lc (own := [("_law_sign", 4)]) (g := gName 4) (tt := tTest (tOp (rIn K true) (tVar 4) (tVar 1))) (te := tVar 4) rfl scAnswersBy.nd (pi_str pe_str)
            (blkOk_by (N := ["_law_stream_here", "_law_found", "_law_turn", "_law_text", "_law_sign"]) (sc := defScope sAnswersBy) (by decide +kernel)) (fun _ _ _ _ _ => pg_name (i := 4) scAnswersBy.nd rfl (Or.inl rfl)) (fun _ _ _ _ _ => pts_one (pt_cmpR op_notIn_seq (pv 4) (pv 1) (by rfl))) (fun _ _ _ _ _ => pv 4)) pe_int (fun _ _ => rfl)))) pss_nil)
        (pss_one (ps_expr (pe_bm PySem.F.plainAttrs_list PySem.F.slot_list_append PySem.F.type_list_append mt_append (pv 1) (pa_cons (pv 3) pa_nil)))))))
      (pss_one (ps_ret (pe_callTy call_tupF (by rfl) T.tuple (by decide +kernel) (pa_cons (pv 1) pa_nil))))), ?_⟩
    refine ⟨Nat.zero_le _, fun L hL => ?_⟩
    have hLa := hS.ne hL
    refine ⟨_, rfl, a, 5, n, rfl, hS.upd_ hLa _, (by show n < 1000000; omega), by decide, by decide, fun r H1 r0 r1 b1 S1 => ?_⟩
    have b01 : But a H H1 := (But.new But.rfl' hL _).trans b1
    refine ⟨_, _, rfl, rfl, _, rfl, by omega, by omega, for_range (lo := 0) (n := (2 + r).toNat) (fun i σ H' => (∃ v2 v3, σ = [some (.ref a), some (.ref L), v2, v3, none]) ∧ But a H H' ∧ Stm H' a (n + 1 + 35 * i) ∧
      ∃ ys : List Str, ys.length = i ∧ ys.Nodup ∧ (∀ y ∈ ys, TextOk y) ∧ H' L = some (.lst (ys.map V.str))) ⟨⟨_, _, rfl⟩, b01, S1, [], rfl, List.nodup_nil, by simp, b1 L _ hLa.symm upd_same⟩ ?_ ?_⟩
    · rintro i σ H2 hi ⟨⟨v2, v3, rfl⟩, b2, S2, ys, hyl, hyn, hyt, hL2⟩
      refine ⟨_, rfl, a, 3, _, rfl, S2, (by show n + 1 + 35 * i < 1000000; omega), by decide, by decide, fun z H3 z0 z1 b3 S3 => ⟨rfl, _, rfl, ?_⟩⟩
      have L3 := b3 L _ hLa.symm hL2
      refine if_vals (fun v H' => ∃ x, v = .str x ∧ TextOk x ∧ But a H3 H' ∧ Stm H' a (n + 1 + 35 * i + 35)) (fun _ Q' q' => ?_) (fun _ Q' q' => ?_) ?_
      · exact ⟨_, rfl, a, _, rfl, S3, (by show n + 1 + 35 * i + 1 + 40 ≤ 1000000; omega), fun x H4 hx b4 S4 => q' _ _ ⟨x, rfl, hx, b4, S4.mono (by omega)⟩⟩
      · refine ⟨_, rfl, a, 12, _, rfl, S3, (by show n + 1 + 35 * i + 1 < 1000000; omega), by decide, by decide, fun y H4 y0 y1 b4 S4 => ?_⟩
        have hy : y = ((y.toNat : Nat) : Int) := by omega
        have hyl : y.toNat < ("abcdefghijkl" : Str).cps.toList.length := by
          have : ("abcdefghijkl" : Str).cps.toList.length = 12 := by decide +kernel
          omega
        refine ⟨"abcdefghijkl", y, ("abcdefghijkl" : Str).cps.toList[y.toNat], rfl, rfl, by decide +kernel, ?_, q' _ _ ⟨one _, rfl, ?_, b4, S4.mono (by omega)⟩⟩
        · conv => lhs; rw [hy]
          exact atI_nat (by simp)
        · obtain ⟨g1, g2⟩ := al_in _ (List.getElem_mem hyl)
          exact one_ok g1 g2
      · rintro v H4 ⟨x, rfl, hx, b4, S4⟩
        have L4 := b4 L _ hLa.symm L3
        have b04 := (b2.trans b3).trans b4
        refine ⟨_, rfl, _, rfl, L, _, rfl, .inl (SqL.of L4), rfl, flat_strs' ys, ?_⟩
        show ∃ k, V.bl (inV (.str x) (ys.map V.str)) = V.bl k ∧ _
        rw [inV_str]
        refine ⟨_, rfl, ifs_vals (fun σ' H' => ∃ x, σ' = [some (.ref a), some (.ref L), some (.int (0 + (i : Nat))), some (.str x), none] ∧ TextOk x ∧ x ∉ ys ∧ Ext H4 H') (fun _ D' q' => ?_) (fun c D' q' => ?_) ?_⟩
        · refine ⟨_, rfl, fun D hD => ?_⟩
          have nLD := ne_of_none L4 hD
          refine lc_it walk_str (fun j H' => Ext H4 H' ∧ H' D = some (.lst ((((("0123456" : Str).cps.toList.map one).take j).filter fun s => !decide (s ∈ ys)).map V.str))) ⟨Ext.new Ext.rfl' hD _, upd_same⟩ (fun _ _ _ _ => True.intro) ?_ ?_
          · rintro j v H5 H6 hj ⟨e5, hD5⟩ ⟨rfl, c, hc, rfl⟩
            have L5 := e5 _ _ L4
            have hc2 : (("0123456" : Str).cps.toList.map one)[j]? = some (one c) := by
              rw [List.getElem?_map, Array.getElem?_toList, hc]
              rfl
            have et : (("0123456" : Str).cps.toList.map one).take (j + 1) = (("0123456" : Str).cps.toList.map one).take j ++ [one c] := by
              rw [List.take_add_one, hc2]
              rfl
            refine ⟨rfl, _, rfl, _, rfl, L, _, rfl, .inl (SqL.of L5), rfl, flat_strs' ys, ?_⟩
            show ∃ k, V.bl (!inV (.str (one c)) (ys.map V.str)) = V.bl k ∧ _
            rw [inV_str, et, List.filter_append]
            refine ⟨_, rfl, ?_⟩
            by_cases hin : one c ∈ ys
            · rw [decide_eq_true hin]
              refine iteF ⟨e5, ?_⟩
              rw [List.filter_cons, decide_eq_true hin]
              simpa using hD5
            · rw [decide_eq_false hin]
              refine iteT ⟨_, rfl, _, hD5, ?_, e5.new hD _, ?_⟩
              · rw [List.length_map]
                have h1 := List.length_filter_le (fun s => !decide (s ∈ ys)) ((("0123456" : Str).cps.toList.map one).take j)
                have h3 : ((("0123456" : Str).cps.toList.map one).take j).length ≤ 7 := by
                  rw [List.length_take]
                  have : (("0123456" : Str).cps.toList.map one).length = 7 := by decide +kernel
                  omega
                have h4 : 1000 < sizeLine := by decide
                omega
              · rw [upd_same, List.filter_cons, decide_eq_false hin, List.map_append]
                rfl
          · rintro H5 ⟨e5, hD5⟩
            have hsz : ("0123456" : Str).cps.size = (("0123456" : Str).cps.toList.map one).length := by decide +kernel
            rw [hsz, List.take_length] at hD5
            have hp := ph ys _ dig_nd
            have h7 : (("0123456" : Str).cps.toList.map one).length = 7 := by decide +kernel
            cases hz : (("0123456" : Str).cps.toList.map one).filter (fun s => !decide (s ∈ ys)) with
            | nil =>
              rw [hz, h7] at hp
              simp at hp
              omega
            | cons z zs =>
              have hzm : z ∈ (("0123456" : Str).cps.toList.map one).filter (fun s => !decide (s ∈ ys)) := by rw [hz]; exact List.mem_cons_self
              obtain ⟨m1, m2⟩ := List.mem_filter.mp hzm
              obtain ⟨c, hc, rfl⟩ := List.mem_map.mp m1
              obtain ⟨g1, g2⟩ := dig_in c hc
              rw [hz] at hD5
              refine ⟨D, _, 0, _, rfl, rfl, SqL.of hD5, atI_nat (j := 0) rfl, q' _ _ ⟨one c, rfl, one_ok g1 g2, by simpa using m2, e5⟩⟩
        · exact q' _ _ ⟨x, rfl, hx, of_decide_eq_false c, Ext.rfl'⟩
        · rintro σ' H5 ⟨x', rfl, hx', hnin, e5⟩
          have L5 := e5 _ _ L4
          refine ⟨_, rfl, .inl ⟨rfl, _, SqL.of L5⟩, _, rfl, L, _, _, rfl, rfl, L5, ?_, ?_⟩
          · rw [List.length_map]
            have h4 : 1000 < sizeLine := by decide
            omega
          · refine ⟨⟨_, _, rfl⟩, (b04.ext e5).new hL _, ((S4.ext e5).upd_ hLa _).mono (by omega), ys ++ [x'], by simp [hyl], ?_, ?_, ?_⟩
            · rw [List.nodup_append]
              refine ⟨hyn, by simp, fun u hu v hv => ?_⟩
              rw [List.mem_singleton.mp hv]
              intro e
              exact hnin (e ▸ hu)
            · intro y hy
              rcases List.mem_append.mp hy with hy | hy
              · exact hyt y hy
              · rw [List.mem_singleton.mp hy]
                exact hx'
            · rw [upd_same, List.map_append]
              rfl
    · rintro σ H2 ⟨⟨v2, v3, rfl⟩, b2, S2, ys, hyl, hyn, hyt, hL2⟩
      refine ⟨_, rfl, L, _, rfl, SqL.of hL2, fun p H3 hp hH3 ft => ?_⟩
      obtain ⟨o, rfl⟩ := hH3
      have hpa := S2.ne hp
      exact k p ys _ ft (by omega) (by omega) hyt hyn (b2.new (b2.free hpa hp) _) ((S2.upd_ hpa _).mono (by omega))
end
end PK
namespace PK
open PySem L2 K8
/-! ### a question from the stream -/
def spPartsBy : Sp := fun vs H Q _ => ∃ (a : Addr) (n : Nat), vs = [.ref a] ∧ Stm H a n ∧ n + 400 ≤ LIM ∧
  ∀ r t (q : Qn) H', H' r = some (.tup (qvals q t)) → FTup H' t (q.answers.map V.str) → q.Good → But a H H' → Stm H' a (n + 300) → Q (.ref r) H'
def spLawOf (C : Addr) : Sp := fun vs H Q _ => ∃ (r t : Addr) (q : Qn), vs = [.ref r] ∧ H r = some (.tup (qvals q t)) ∧ FTup H t (q.answers.map V.str) ∧ q.Good ∧ ∀ x H', Ext H H' → QAt C H' x q → Q (.ref x) H'
theorem scPartsBy : FnScope ["_law_stream_here", "_law_some", "_law_last", "_law_numbers"] ["_law_stream_here"] (defScope sPartsBy) := ⟨rfl, rfl, rfl, by decide +kernel, rfl, by decide +kernel, by decide +kernel⟩
theorem scLawOf : FnScope ["_law_parts"] ["_law_parts"] (defScope sLawOf) := ⟨rfl, rfl, rfl, by decide +kernel, rfl, by decide +kernel, by decide +kernel⟩
section
variable {P : Program} {w : World} {K : PySem.W.Frag} {mg : Str → Option Value} {base : Heap} {B C : Addr}
theorem ok_partsby {f f1 f2 f3 : Addr} {fd fd1 fd2 fd3 : FuncData} (F : Fun K "_law_parts_by" "_law_parts_by" sPartsBy f fd) (T : T0 mg) (G1 : Callee P w K mg base CX0 2 "_law_take" f1 fd1 ["_law_stream_here", "_law_many"] spTake)
    (G2 : Callee P w K mg base CX0 3 "_law_name_by" f2 fd2 ["_law_stream_here"] spNameBy) (G3 : Callee P w K mg base CX0 4 "_law_answers_by" f3 fd3 ["_law_stream_here"] spAnswersBy) : FnOk P w K mg base CX0 5 f fd ["_law_stream_here"] spPartsBy := by
  refine F.ok scPartsBy (fun vs H Q E h => ?_) (fun cdv A outer s H vs Q E hr h => ?_)
  · obtain ⟨a, n, rfl, _⟩ := h
    rfl
  · obtain ⟨a, n, rfl, hS, hn, k⟩ := h
    have hn' : n + 400 ≤ 1000000 := hn
    have hr2 : Room 2 _ := hr.mono (by decide)
    have hr3 : Room 3 _ := hr.mono (by decide)
    refine ⟨_, pss_cons (ps_set (i := 1) scPartsBy.nd rfl (Or.inl rfl) (pe_call G3.ok hr (by rfl) G3.mg G3.kp G3.bd .nil pass0 (pa_cons (pv 0) pa_nil)))
      (pss_cons (ps_set (i := 2) scPartsBy.nd rfl (Or.inl rfl) (pe_ifExp (pt_cmpR op_eq (pe_call G1.ok hr2 (by rfl) G1.mg G1.kp G1.bd .nil pass0 (pa_cons (pv 0) (pa_cons pe_int pa_nil))) pe_int (nomark _)) (pe_call G2.ok hr3 (by rfl) G2.mg G2.kp G2.bd .nil pass0 (pa_cons (pv 0) pa_nil)) pe_str))
      (pss_cons (ps_set (i := 3) scPartsBy.nd rfl (Or.inl rfl) (pe_tup (pa_cons (pe_call G1.ok hr2 (by rfl) G1.mg G1.kp G1.bd .nil pass0 (pa_cons (pv 0) (pa_cons (pe_callB call_len_seq (by rfl) T.len PySem.boot_len (pa_cons (pv 1) pa_nil)) pa_nil)))
        (pa_cons (pe_op op_add pe_int (pe_call G1.ok hr2 (by rfl) G1.mg G1.kp G1.bd .nil pass0 (pa_cons (pv 0) (pa_cons pe_int pa_nil)))) (pa_cons (pe_op op_add pe_int (pe_call G1.ok hr2 (by rfl) G1.mg G1.kp G1.bd .nil pass0 (pa_cons (pv 0) (pa_cons pe_int pa_nil)))) pa_nil)))))
      (pss_one (ps_ret (pe_op op_catA (pe_op op_catA (pe_tup (pa_cons (pe_call G2.ok hr3 (by rfl) G2.mg G2.kp G2.bd .nil pass0 (pa_cons (pv 0) pa_nil)) (pa_cons (pe_call G2.ok hr3 (by rfl) G2.mg G2.kp G2.bd .nil pass0 (pa_cons (pv 0) pa_nil)) (pa_cons (pv 1) pa_nil)))) (pv 3))
        (pe_tup (pa_cons (pv 2) pa_nil))))))), ?_⟩
    have hsz : 1000 ≤ sizeLine := by decide
    refine ⟨_, rfl, a, n, rfl, hS, (by show n + 300 ≤ 1000000; omega), fun t ys H1 ht y2 y6 yt yn b1 S1 => ?_⟩
    have hta : t ≠ a := fun e => by
      obtain ⟨o, _, h1⟩ := ht
      obtain ⟨_, _, _, _, h2, _⟩ := S1
      rw [e, h2] at h1
      cases h1
    refine ⟨_, rfl, a, 2, n + 250, rfl, S1, (by show n + 250 < 1000000; omega), by decide, by decide, fun z H2 z0 z1 b2 S2 => ⟨rfl, _, rfl, ?_⟩⟩
    refine if_vals (fun v H' => ∃ x, v = .str x ∧ (x = Str.empty ∨ NameOk x) ∧ But a H2 H' ∧ Stm H' a (n + 260)) (fun _ Q' q' => ?_) (fun _ Q' q' => ?_) ?_
    · exact ⟨_, rfl, a, _, rfl, S2, (by show n + 250 + 1 + 20 ≤ 1000000; omega), fun x H4 hx b4 S4 => q' _ _ ⟨x, rfl, .inr hx, b4, S4.mono (by omega)⟩⟩
    · exact q' _ _ ⟨Str.ofString "", rfl, .inl (by decide +kernel), But.rfl', S2.mono (by omega)⟩
    rintro v H3 ⟨last, rfl, hlast, b3, S3⟩
    have b03 : But a H H3 := (b1.trans b2).trans b3
    have ht3 : FTup H3 t (ys.map V.str) := ht.keep fun o h => (b2.trans b3) t o hta h
    refine ⟨_, rfl, _, rfl, t, _, rfl, .inr ht3.sq, a, _, n + 260, rfl, S3, (by show n + 260 < 1000000; omega), by rw [List.length_map]; omega, by rw [List.length_map]; omega, fun r1 H4 r10 r11 b4 S4 => ?_⟩
    rw [List.length_map] at r11
    refine ⟨_, rfl, a, 9, _, rfl, S4, (by show n + 261 < 1000000; omega), by decide, by decide, fun r2 H5 r20 r21 b5 S5 => ⟨_, _, rfl, rfl, ?_⟩⟩
    refine ⟨_, rfl, a, 9, _, rfl, S5, (by show n + 262 < 1000000; omega), by decide, by decide, fun r3 H6 r30 r31 b6 S6 => ⟨_, _, rfl, rfl, by show 3 ≤ sizeLine; decide, fun p1 hp1 => ?_⟩⟩
    have b06 : But a H H6 := ((b03.trans b4).trans b5).trans b6
    have hpa1 := S6.ne hp1
    have b07 := b06.new (b06.free hpa1 hp1) (.tup [.int r1, .int (1 + r2), .int (1 + r3)])
    have S7 := S6.upd_ hpa1 (.tup [.int r1, .int (1 + r2), .int (1 + r3)])
    have ht7 : FTup (upd H6 p1 (.tup [.int r1, .int (1 + r2), .int (1 + r3)])) t (ys.map V.str) := ht3.keep fun o h => by
      have h6 := ((b4.trans b5).trans b6) t o hta h
      rw [upd_ne (ne_of_none h6 hp1)]
      exact h6
    have h7 : upd H6 p1 (.tup [.int r1, .int (1 + r2), .int (1 + r3)]) p1 = some (.tup [.int r1, .int (1 + r2), .int (1 + r3)]) := upd_same
    show gName 3 (.ref p1) _ (upd H6 p1 (.tup [.int r1, .int (1 + r2), .int (1 + r3)])) _
    generalize upd H6 p1 (.tup [.int r1, .int (1 + r2), .int (1 + r3)]) = H7 at *
    refine ⟨_, rfl, a, _, rfl, S7, (by show n + 263 + 20 ≤ 1000000; omega), fun n1 H8 g1 b8 S8 => ?_⟩
    refine ⟨_, rfl, a, _, rfl, S8, (by show n + 272 + 20 ≤ 1000000; omega), fun n2 H9 g2 b9 S9 => ⟨_, rfl, by show 3 ≤ sizeLine; decide, fun p2 hp2 => ?_⟩⟩
    have b09 := (b07.trans b8).trans b9
    have ht9 : FTup H9 t (ys.map V.str) := ht7.keep fun o h => (b8.trans b9) t o hta h
    have h9 := (b8.trans b9) p1 _ hpa1.symm h7
    have e2 : Ext H9 (upd H9 p2 (.tup [.str n1, .str n2, .ref t])) := Ext.new Ext.rfl' hp2 _
    refine ⟨_, rfl, p2, p1, _, _, rfl, rfl, SqT.of upd_same, SqT.of (e2 _ _ h9), by show 6 ≤ sizeLine; decide, fun z => (nomatch z), fun _ z => (nomatch z), fun _ _ p3 hp3 => ?_⟩
    have e3 := e2.trans (Ext.new Ext.rfl' hp3 (.tup [.str n1, .str n2, .ref t, .int r1, .int (1 + r2), .int (1 + r3)]))
    refine ⟨_, rfl, by show 1 ≤ sizeLine; decide, fun p4 hp4 => ?_⟩
    have e4 := e3.trans (Ext.new Ext.rfl' hp4 (.tup [.str last]))
    have n34 : p3 ≠ p4 := fun e => by
      rw [← e, show _ = _ from upd_same] at hp4
      cases hp4
    refine ⟨p3, p4, _, _, rfl, rfl, SqT.of ((upd_ne n34).trans upd_same), SqT.of upd_same, by show 7 ≤ sizeLine; decide, fun z => (nomatch z), fun _ z => (nomatch z), fun _ _ p5 hp5 => ?_⟩
    have e5 := e4.trans (Ext.new Ext.rfl' hp5 (.tup [.str n1, .str n2, .ref t, .int r1, .int (1 + r2), .int (1 + r3), .str last]))
    exact k p5 t ⟨n1, n2, ys, r1, 1 + r2, 1 + r3, last⟩ _ upd_same (ht9.ext e5) ⟨g1, g2, y2, y6, yt, yn, r10, r11, by show 1 ≤ 1 + r2; omega, by show 1 + r2 ≤ 9; omega, by show 1 ≤ 1 + r3; omega, by show 1 + r3 ≤ 9; omega, hlast⟩ (b09.ext e5) ((S9.ext e5).mono (by omega))
end
end PK
namespace PK
open PySem L2 K8
structure QMkL (P : Program) (w : World) (K : PySem.W.Frag) (mg : Str → Option Value) (base : Heap) (C B f : Addr) (fd : FuncData) : Prop where
  q : QMk P w K mg base C B f fd
  b8 : Binds K fd ["self", "name", "matter", "answers", "right", "toil", "marks", "kin"] []
  b4 : ∃ ds, Vals [V.int 0, V.int 5, V.int 1, V.str ""] ds ∧ Binds K fd ["self", "name", "matter", "answers", "right", "toil", "marks", "kin"] ds
section
variable {P : Program} {w : World} {K : PySem.W.Frag} {mg : Str → Option Value} {base : Heap} {B C : Addr}
theorem ok_lawof {f f1 : Addr} {fd fd1 : FuncData} (F : Fun K "_law_of" "_law_of" sLawOf f fd) (TC : TQ K mg C) (G1 : QMkL P w K mg base C B f1 fd1) : FnOk P w K mg base CX0 5 f fd ["_law_parts"] (spLawOf C) := by
  refine F.ok scLawOf (fun vs H Q E h => ?_) (fun cdv A outer s H vs Q E hr h => ?_)
  · obtain ⟨r, t, q, rfl, _⟩ := h
    rfl
  · obtain ⟨r, t, q, rfl, hT, ht, gq, k⟩ := h
    refine ⟨_, pss_one (ps_ret (pe_make G1.q.mkc G1.q.ok hr (by rfl) TC.mgC G1.b8 .nil passL (pa_cons (pe_ix ix_tup (pv 0) pe_int (fun _ _ => rfl)) (pa_cons (pe_ix ix_tup (pv 0) pe_int (fun _ _ => rfl)) (pa_cons (pe_ix ix_tup (pv 0) pe_int (fun _ _ => rfl)) (pa_cons (pe_ix ix_tup (pv 0) pe_int (fun _ _ => rfl))
      (pa_cons (pe_ix ix_tup (pv 0) pe_int (fun _ _ => rfl)) (pa_cons (pe_ix ix_tup (pv 0) pe_int (fun _ _ => rfl)) (pa_cons (pe_ix ix_tup (pv 0) pe_int (fun _ _ => rfl)) pa_nil))))))))), ?_⟩
    refine ⟨_, rfl, r, _, _, _, rfl, rfl, SqT.of hT, atI_nat (j := 0) rfl, _, rfl, r, _, _, _, rfl, rfl, SqT.of hT, atI_nat (j := 1) rfl, _, rfl, r, _, _, _, rfl, rfl, SqT.of hT, atI_nat (j := 2) rfl, _, rfl, r, _, _, _, rfl, rfl, SqT.of hT, atI_nat (j := 3) rfl, ?_⟩
    refine ⟨_, rfl, r, _, _, _, rfl, rfl, SqT.of hT, atI_nat (j := 4) rfl, _, rfl, r, _, _, _, rfl, rfl, SqT.of hT, atI_nat (j := 5) rfl, _, rfl, r, _, _, _, rfl, rfl, SqT.of hT, atI_nat (j := 6) rfl, ?_⟩
    intro x dx nx ndx nex
    refine ⟨x, dx, t, q, rfl, upd_same, ht.ext ((Ext.new Ext.rfl' ndx _).trans (Ext.new Ext.rfl' ((upd_ne nex.symm).trans nx) _)), gq.near.1, fun _ H3 kp hx => ⟨rfl, ?_⟩, fun f => ?_⟩
    · obtain ⟨e3, q3⟩ := made nx ndx ht gq kp hx
      exact k _ _ e3 q3
    · rw [gq.near.2] at f
      cases f
end
end PK
namespace PK
open PySem L2 K8
/-! ### turning, in plain numbers -/
theorem turnL_at (xs : List Str) {k : Nat} (hk : k < xs.length) {i : Nat} (hi : i < xs.length) : (turnL xs k)[i]? = xs[(i + k) % xs.length]? := by
  unfold turnL
  by_cases h : i < (xs.drop k).length
  · rw [List.getElem?_append_left h, List.getElem?_drop]
    rw [List.length_drop] at h
    rw [Nat.mod_eq_of_lt (by omega), Nat.add_comm]
  · rw [List.getElem?_append_right (by omega)]
    rw [List.length_drop] at h ⊢
    have e : (i + k) % xs.length = i + k - xs.length := by
      rw [Nat.mod_eq_sub_mod (by omega), Nat.mod_eq_of_lt (by omega)]
    rw [e, List.getElem?_take]
    rw [if_pos (by omega)]
    congr 1
    omega
theorem turnL_len (xs : List Str) (k : Nat) : (turnL xs k).length = xs.length := (turnL_perm xs k).length_eq
theorem turnL_turnL (xs : List Str) {a b : Nat} (ha : a < xs.length) (hb : b < xs.length) : turnL (turnL xs a) b = turnL xs ((a + b) % xs.length) := by
  have hn : 0 < xs.length := by omega
  refine List.ext_getElem? fun i => ?_
  by_cases hi : i < xs.length
  · have h1 := turnL_at (turnL xs a) (k := b) (by rw [turnL_len]; exact hb) (i := i) (by rw [turnL_len]; exact hi)
    rw [turnL_len] at h1
    rw [h1, turnL_at xs ha (Nat.mod_lt _ hn), turnL_at xs (Nat.mod_lt _ hn) hi]
    congr 1
    simp only [Nat.mod_add_mod, Nat.add_mod_mod]
    congr 1
    omega
  · rw [List.getElem?_eq_none (by rw [turnL_len, turnL_len]; omega), List.getElem?_eq_none (by rw [turnL_len]; omega)]
theorem turnR_lt {n k : Nat} {r : Int} (h0 : 0 ≤ r) (h1 : r < n) (hk : k < n) : 0 ≤ turnR n r k ∧ turnR n r k < n ∧ (turnR n r k + k) % n = r := by
  unfold turnR
  split
  · refine ⟨by omega, by omega, ?_⟩
    rw [Int.sub_add_cancel]
    exact Int.emod_eq_of_lt h0 h1
  · refine ⟨by omega, by omega, ?_⟩
    have e : r - k + n + k = r + n := by omega
    rw [e, Int.add_emod_right]
    exact Int.emod_eq_of_lt h0 h1
theorem turnR_turnR {n a b : Nat} {r : Int} (h0 : 0 ≤ r) (h1 : r < n) (ha : a < n) (hb : b < n) : turnR n (turnR n r a) b = turnR n r ((a + b) % n) := by
  have hn : 0 < n := by omega
  by_cases hab : a + b < n
  · rw [Nat.mod_eq_of_lt hab]
    unfold turnR
    split <;> split <;> split <;> omega
  · have e : (a + b) % n = a + b - n := by rw [Nat.mod_eq_sub_mod (by omega), Nat.mod_eq_of_lt (by omega)]
    rw [e]
    unfold turnR
    split <;> split <;> split <;> omega
theorem turnK_add {n : Nat} (hn : 0 < n) (a b : Int) : turnK n (a + b) = (turnK n a + turnK n b) % n := by
  obtain ⟨_, e1⟩ := turnK_lt hn a
  obtain ⟨_, e2⟩ := turnK_lt hn b
  obtain ⟨_, e3⟩ := turnK_lt hn (a + b)
  have : ((turnK n (a + b) : Nat) : Int) = (((turnK n a + turnK n b) % n : Nat) : Int) := by
    rw [e3, Int.natCast_emod, Int.natCast_add, e1, e2, ← Int.add_emod]
  exact_mod_cast this
theorem turn_turn {q : Qn} (g : q.Good) (a b : Int) : (q.turn a).turn b = q.turn (a + b) := by
  have hn : 0 < q.answers.length := by have := g.lo; omega
  obtain ⟨h1, _⟩ := turnK_lt hn a
  obtain ⟨h2, _⟩ := turnK_lt hn b
  unfold Qn.turn
  simp only [turnL_len, Qn.mk.injEq, true_and, and_true]
  rw [turnK_add hn, turnL_turnL _ h1 h2, turnR_turnR g.r0 g.r1 h1 h2]
  exact ⟨rfl, rfl⟩
theorem turn_zero {q : Qn} (g : q.Good) {a : Int} (h : a % (q.answers.length : Nat) = 0) : q.turn a = q := by
  have hn : 0 < q.answers.length := by have := g.lo; omega
  obtain ⟨_, e⟩ := turnK_lt hn a
  have e0 : turnK q.answers.length a = 0 := by omega
  unfold Qn.turn
  rw [e0]
  have hr := g.r0
  unfold turnL turnR
  simp [hr]
theorem turn_many {q : Qn} (g : q.Good) : q.turn (q.answers.length : Nat) = q := turn_zero g (Int.emod_self)
theorem turnK_nat {n k : Nat} (h : k < n) : turnK n (k : Int) = k := by
  unfold turnK
  rw [Int.emod_eq_of_lt (by omega) (by omega)]
  omega
theorem turn_inj {q : Qn} (g : q.Good) {i j : Nat} (hi : i < q.answers.length) (hj : j < q.answers.length) (h : q.turn i = q.turn j) : i = j := by
  have e := congrArg Qn.answers h
  have e : turnL q.answers (turnK q.answers.length i) = turnL q.answers (turnK q.answers.length j) := e
  rw [turnK_nat hi, turnK_nat hj] at e
  have h1 := turnL_at q.answers hi (i := 0) (by omega)
  have h2 := turnL_at q.answers hj (i := 0) (by omega)
  rw [Nat.zero_add, Nat.mod_eq_of_lt hi] at h1
  rw [Nat.zero_add, Nat.mod_eq_of_lt hj] at h2
  rw [e, h2, List.getElem?_eq_getElem hi, List.getElem?_eq_getElem hj] at h1
  exact ((List.getElem_inj g.nd).mp (Option.some.inj h1)).symm
theorem turn_ans {q : Qn} (g : q.Good) (i : Int) : ansS (q.turn i) = ansS q := by
  have hn : 0 < q.answers.length := by have := g.lo; omega
  obtain ⟨hk, _⟩ := turnK_lt hn i
  obtain ⟨a1, a2, a3⟩ := turnR_lt g.r0 g.r1 hk
  show (turnL q.answers (turnK q.answers.length i)).getD (turnR q.answers.length q.right (turnK q.answers.length i)).toNat Str.empty = q.answers.getD q.right.toNat Str.empty
  generalize turnK q.answers.length i = k at *
  generalize turnR q.answers.length q.right k = r at *
  rw [List.getD_eq_getElem?_getD, List.getD_eq_getElem?_getD, turnL_at q.answers hk (by omega)]
  have e : (r.toNat + k) % q.answers.length = q.right.toNat := by
    have : (((r.toNat + k) % q.answers.length : Nat) : Int) = ((q.right.toNat : Nat) : Int) := by
      rw [Int.natCast_emod, Int.natCast_add]
      have e1 : ((r.toNat : Nat) : Int) = r := by omega
      have e2 : ((q.right.toNat : Nat) : Int) = q.right := by have := g.r0; omega
      rw [e1, e2, a3]
    exact_mod_cast this
  rw [e]
theorem turn_len {q : Qn} (i : Int) : (q.turn i).answers.length = q.answers.length := turnL_len _ _
theorem turn_str (q : Qn) (i : Int) : strS (q.turn i) = strS q := rfl
theorem turn_repr (q : Qn) (i : Int) : reprS (q.turn i) = reprS q := rfl
theorem turn_name (q : Qn) (i : Int) : (q.turn i).name = q.name := rfl
theorem count_turns {q : Qn} (g : q.Good) {k : Nat} (hk : k < q.answers.length) : (List.range q.answers.length).countP (fun i => decide (q.turn (i : Nat) = q.turn (k : Nat))) = 1 := by
  have e : (List.range q.answers.length).countP (fun i => decide (q.turn (i : Nat) = q.turn (k : Nat))) = (List.range q.answers.length).countP (fun i => i == k) := by
    refine List.countP_congr fun i hi => ?_
    simp only [decide_eq_true_eq, beq_iff_eq]
    constructor
    · exact fun h => turn_inj g (List.mem_range.mp hi) hk h
    · rintro rfl
      rfl
  rw [e]
  have h := List.Nodup.count (a := k) (List.nodup_range (n := q.answers.length))
  rw [if_pos (List.mem_range.mpr hk), List.count] at h
  exact h
/-! ### the question at an address -/
theorem map_str_inj : ∀ {xs ys : List Str}, xs.map V.str = ys.map V.str → xs = ys
  | [], [], _ => rfl
  | [], _ :: _, h => by cases h
  | _ :: _, [], h => by cases h
  | x :: xs, y :: ys, h => by
    rw [List.map_cons, List.map_cons] at h
    injection h with h1 h2
    rw [V.str.inj h1, map_str_inj h2]
theorem QAt.uniq {C : Addr} {H : Hp} {p : Addr} {q q' : Qn} (h : QAt C H p q) (h' : QAt C H p q') : q = q' := by
  obtain ⟨dx, t, h1, o, _, h2⟩ := h.ex
  obtain ⟨dx', t', h1', o', _, h2'⟩ := h'.ex
  rw [h1] at h1'
  have e := (HO.ins.inj (Option.some.inj h1')).2.2
  have e2 : qvals q t = qvals q' t' := by
    have := congrArg (fun l => l.map Prod.snd) e
    simpa [flds, qvals] using this
  simp only [qvals, List.cons.injEq, V.str.injEq, V.int.injEq, V.ref.injEq, and_true] at e2
  obtain ⟨a1, a2, a3, a4, a5, a6, a7⟩ := e2
  rw [← a3, h2] at h2'
  have e3 := map_str_inj (HO.tup.inj (HO.frz.inj (Option.some.inj h2')).2)
  obtain ⟨b1, b2, b3, b4, b5, b6, b7⟩ := q
  obtain ⟨c1, c2, c3, c4, c5, c6, c7⟩ := q'
  simp only at a1 a2 a4 a5 a6 a7 e3
  subst a1 a2 a4 a5 a6 a7 e3
  rfl
open Classical in
noncomputable def qof (C : Addr) (H : Hp) (p : Addr) : Qn := if h : ∃ q, QAt C H p q then h.choose else ⟨Str.empty, Str.empty, [], 0, 0, 0, Str.empty⟩
theorem qof_eq {C : Addr} {H : Hp} {p : Addr} {q : Qn} (h : QAt C H p q) : qof C H p = q := by
  unfold qof
  rw [dif_pos ⟨q, h⟩]
  exact (Exists.choose_spec (⟨q, h⟩ : ∃ q, QAt C H p q)).uniq h
theorem qof_at {C : Addr} {H : Hp} {p : Addr} {q : Qn} (h : QAt C H p q) : QAt C H p (qof C H p) := by rw [qof_eq h]; exact h
end PK
namespace PK
open PySem L2 K8
/-- a special method of the class -/
structure SCal (P : Program) (w : World) (K : PySem.W.Frag) (mg : Str → Option Value) (base : Heap) (C : Addr) (m : Str) (f : Addr) (fd : FuncData) (sp : Sp) : Prop where
  ok : FnOk P w K mg base CX0 1 f fd ["self"] sp
  at_ : PySem.W.findIn K (.ref C) m = some (some (.ref f))
  fn : PySem.W.isFn K (.ref f) = true
  bd : Binds K fd ["self"] []
/-- the methods of Question -/
structure QAll (P : Program) (w : World) (K : PySem.W.Frag) (mg : Str → Option Value) (base : Heap) (C : Addr) : Prop where
  turned : ∃ f fd, MCal P w K mg base CX0 5 C "turned" f fd ["self", "by"] (spTurned C)
  answer : ∃ f fd, MCal P w K mg base CX0 1 C "answer" f fd ["self"] (spAnswer C)
  iskin : ∃ f fd, MCal P w K mg base CX0 2 C "is_kin" f fd ["self", "other"] (spIsKin C)
  eq : ∃ f fd, FnOk P w K mg base CX0 2 f fd ["self", "other"] (spEqB (REq C)) ∧ EqC K C f ∧ Binds K fd ["self", "other"] []
  len : ∃ f fd, SCal P w K mg base C "__len__" f fd (spLen C)
  repr : ∃ f fd, SCal P w K mg base C "__repr__" f fd (spRepr C)
  str : ∃ f fd, SCal P w K mg base C "__str__" f fd (spStr C)
  changed : ∃ f fd, FnOk P w K mg base CX0 5 f fd ["self", "right", "toil", "marks", "kin"] (spChanged C) ∧ Meth K C "changed" f ∧
    (∃ g, KBn K fd ["self", "right", "toil", "marks", "kin"] 1 ["right", "toil", "marks", "kin"] g (fun vs zs => vs ++ zs)) ∧
    (∃ g, KBn K fd ["self", "right", "toil", "marks", "kin"] 1 ["toil"] g (fun vs zs => vs ++ (V.non :: (zs ++ [V.non, V.non])))) ∧
    (∃ g, KBn K fd ["self", "right", "toil", "marks", "kin"] 1 ["marks"] g (fun vs zs => vs ++ (V.non :: V.non :: (zs ++ [V.non]))))
theorem QAt.updL {C D : Addr} {H : Hp} {p : Addr} {q : Qn} {xs : List V} (h : QAt C H p q) (hD : H D = some (.lst xs)) (o : HO) : QAt C (upd H D o) p q := by
  obtain ⟨dx, t, h1, o1, d1, h2⟩ := h.ex
  exact ⟨⟨dx, t, by rw [upd_ne (ne_of h1 hD (by intro z; cases z))]; exact h1, o1, d1, by rw [upd_ne (ne_of h2 hD (by intro z; cases z))]; exact h2⟩, h.ok⟩
/-- a list at D of the turns of q -/
structure TurnsAt (C : Addr) (H : Hp) (q : Qn) (ps : List Addr) : Prop where
  it : ∀ j z, ps[j]? = some z → QAt C H z (q.turn (j : Nat))
theorem TurnsAt.ext {C : Addr} {H H' : Hp} {q : Qn} {ps : List Addr} (h : TurnsAt C H q ps) (e : Ext H H') : TurnsAt C H' q ps := ⟨fun j z hz => (h.it j z hz).ext e⟩
theorem TurnsAt.map {C : Addr} {H : Hp} {q : Qn} {ps : List Addr} (h : TurnsAt C H q ps) : ps.map (qof C H) = (List.range ps.length).map fun j => q.turn (j : Nat) := by
  refine List.ext_getElem? fun j => ?_
  rw [List.getElem?_map, List.getElem?_map]
  cases hz : ps[j]? with
  | none =>
    have := List.getElem?_eq_none_iff.mp hz
    rw [List.getElem?_eq_none (by simpa using this)]
    rfl
  | some z =>
    have hj := (List.getElem?_eq_some_iff.mp hz).1
    rw [List.getElem?_range hj]
    show some (qof C H z) = some (q.turn j)
    rw [qof_eq (h.it j z hz)]
theorem TurnsAt.insB {C : Addr} {H : Hp} {q : Qn} {ps : List Addr} (h : TurnsAt C H q ps) {i : Nat} {y : Addr} (hy : ps[i]? = some y) : InsB C (REq C) (fun z => decide (qof C H z = q.turn (i : Nat))) y ps H := by
  have qy := h.it i y hy
  obtain ⟨dy, ty, hy1, _⟩ := qy.ex
  refine ⟨⟨dy, _, hy1⟩, fun z hz => ?_⟩
  obtain ⟨j, hj⟩ := List.mem_iff_getElem?.mp hz
  have qz := h.it j z hj
  obtain ⟨dz, tz, hz1, _⟩ := qz.ex
  refine ⟨⟨dz, _, hz1⟩, ⟨_, _, qz, qy, ?_⟩, fun e => ?_⟩
  · rw [qof_eq qz]
  · rw [e, qof_eq qy]
    exact decide_eq_true rfl
def spTurnsR (C : Addr) : Sp := fun vs H Q _ => ∃ (p : Addr) (q : Qn) (i j : Int), vs = [.ref p, .int i, .int j] ∧ QAt C H p q ∧ ∀ H', Ext H H' → Q (.bl true) H'
theorem scTurnsR : FnScope ["_law_one", "_law_first", "_law_second", "_law_many", "_law_turns", "_law_by", "_law_other"] ["_law_one", "_law_first", "_law_second"] (defScope sTurnsR) := ⟨rfl, rfl, rfl, by decide +kernel, rfl, by decide +kernel, by decide +kernel⟩
section
variable {P : Program} {w : World} {K : PySem.W.Frag} {mg : Str → Option Value} {base : Heap} {B C : Addr}
theorem ok_turnsr {f : Addr} {fd : FuncData} (F : Fun K "_law_turns_right" "_law_turns_right" sTurnsR f fd) (T : T0 mg) (TC : TQ K mg C) (M : QAll P w K mg base C) : FnOk P w K mg base CX0 6 f fd ["_law_one", "_law_first", "_law_second"] (spTurnsR C) := by
  obtain ⟨f1, fd1, Mt⟩ := M.turned
  obtain ⟨f2, fd2, Ma⟩ := M.answer
  obtain ⟨f3, fd3, Mk⟩ := M.iskin
  obtain ⟨f4, fd4, Me, Te, be⟩ := M.eq
  obtain ⟨f5, fd5, Ml⟩ := M.len
  obtain ⟨f6, fd6, Mr⟩ := M.repr
  obtain ⟨f7, fd7, Ms⟩ := M.str
  refine F.ok scTurnsR (fun vs H Q E h => ?_) (fun cdv A outer s H vs Q E hr h => ?_)
  · obtain ⟨p, q, i, j, rfl, _⟩ := h
    rfl
  · obtain ⟨p, q, i, j, rfl, hq, k⟩ := h
    have hr1 : Room 1 _ := hr.mono (by decide)
    have hr2 : Room 2 _ := hr.mono (by decide)
    have hr3 : Room 3 _ := hr.mono (by decide)
    refine ⟨_, pss_cons (ps_set (i := 3) scTurnsR.nd rfl (Or.inl rfl) (pe_callB (call_lenI (m := "") Ml.ok Ml.at_ Ml.fn Ml.bd pass0 hr2) (by rfl) T.len PySem.boot_len (pa_cons (pv 0) pa_nil)))
      (pss_cons (ps_if (PW.pt (pw_or (pt_cmpR (op_neB Me Te be pass0 hr3) (pe_meth (pe_meth (pv 0) TC.cl Mt.me Mt.ok hr Mt.bd .nil pass0 (pa_cons (pv 1) pa_nil)) TC.cl Mt.me Mt.ok hr Mt.bd .nil pass0 (pa_cons (pv 2) pa_nil)) (pe_meth (pv 0) TC.cl Mt.me Mt.ok hr Mt.bd .nil pass0 (pa_cons (pe_op op_add (pv 1) (pv 2)) pa_nil)) (nomark _))
          (pw_or1 (pt_cmpR (op_neB Me Te be pass0 hr3) (pe_meth (pv 0) TC.cl Mt.me Mt.ok hr Mt.bd .nil pass0 (pa_cons (pv 3) pa_nil)) (pv 0) (nomark _))))) (pss_one (ps_ret pe_bl)) pss_nil)
      (pss_cons (ps_setLc (i := 4) (own := [("_law_by", 5)]) (g := gName 5) (tt := tYes) rfl scTurnsR.nd rfl rfl (sw_true rfl rfl rfl (by decide +kernel)) (pi_range1 (by rfl) T.range (pa_cons (pv 3) pa_nil))
          (blkOk_by (N := ["_law_one", "_law_first", "_law_second", "_law_many", "_law_turns", "_law_by", "_law_other"]) (sc := defScope sTurnsR) (by decide +kernel)) (fun _ _ _ _ _ => pg_name (i := 5) scTurnsR.nd rfl (Or.inl rfl)) (fun _ _ _ _ _ => pts_nil) (fun _ _ _ _ _ => pe_meth (pv 0) TC.cl Mt.me Mt.ok hr Mt.bd .nil pass0 (pa_cons (pv 5) pa_nil)))
      (pss_cons (ps_for PassesOwn.never rfl (pi_enum (by rfl) T.enum (pa_cons (pv 4) pa_nil)) (pg_tup rfl (pgs_cons (pg_name (i := 5) scTurnsR.nd rfl (.inl rfl)) (pgs_cons (pg_name (i := 6) scTurnsR.nd rfl (.inl rfl)) pgs_nil)))
        (pss_cons (ps_if (PW.pt (pw_or (pt_cmpR op_ne (pe_meth0 (pv 6) TC.cl Ma.me Ma.ok hr1 Ma.bd .nil pass0) (pe_meth0 (pv 0) TC.cl Ma.me Ma.ok hr1 Ma.bd .nil pass0) (nomark _))
            (pw_or (pt_not (pt_val (pe_meth (pv 6) TC.cl Mk.me Mk.ok hr2 Mk.bd .nil pass0 (pa_cons (pv 0) pa_nil)))) (pw_or1 (pt_cmpR op_ne (pe_callB (call_lenI (m := "") Ml.ok Ml.at_ Ml.fn Ml.bd pass0 hr2) (by rfl) T.len PySem.boot_len (pa_cons (pv 6) pa_nil)) (pv 3) (nomark _)))))) (pss_one (ps_ret pe_bl)) pss_nil)
        (pss_cons (ps_if (PW.pt (pw_or (pt_cmpR op_ne (pe_callTy (call_strI Ms.ok Ms.at_ Ms.fn Ms.bd pass0 hr3) (by rfl) T.str (by decide +kernel) (pa_cons (pv 6) pa_nil)) (pe_callTy (call_strI Ms.ok Ms.at_ Ms.fn Ms.bd pass0 hr3) (by rfl) T.str (by decide +kernel) (pa_cons (pv 0) pa_nil)) (nomark _))
            (pw_or (pt_cmpR op_ne (pe_callB (call_reprI Mr.ok Mr.at_ Mr.fn Mr.bd pass0 hr2) (by rfl) T.repr (by decide +kernel) (pa_cons (pv 6) pa_nil)) (pe_callB (call_reprI Mr.ok Mr.at_ Mr.fn Mr.bd pass0 hr2) (by rfl) T.repr (by decide +kernel) (pa_cons (pv 0) pa_nil)) (nomark _))
              (pw_or1 (pt_cmpR op_ne (pe_bm PySem.F.plainAttrs_list PySem.F.slot_list_index PySem.F.type_list_index (mt_indexB (REq.mon C) Me Te be pass0 hr3) (pv 4) (pa_cons (pv 6) pa_nil)) (pv 5) (nomark _)))))) (pss_one (ps_ret pe_bl)) pss_nil)
        (pss_one (ps_if (PW.pt (pw_or (pt_cmpR (op_neB Me Te be pass0 hr3) (pe_meth (pv 6) TC.cl Mt.me Mt.ok hr Mt.bd .nil pass0 (pa_cons (pe_op op_sub (pv 3) (pv 5)) pa_nil)) (pv 0) (nomark _))
            (pw_or1 (pt_cmpR op_ne (pe_bm PySem.F.plainAttrs_list PySem.F.slot_list_count PySem.F.type_list_count (mt_countB (REq.mon C) Me Te be pass0 hr3) (pv 4) (pa_cons (pv 6) pa_nil)) pe_int (nomark _))))) (pss_one (ps_ret pe_bl)) pss_nil)))))
      (pss_one (ps_ret pe_bl))))), ?_⟩
    obtain ⟨⟨dx, t, hp, ht⟩, gq⟩ := id hq
    have hlo := gq.lo
    have hhi := gq.hi
    refine ⟨_, rfl, p, dx, _, rfl, hp, p, q, rfl, hq, _, rfl, ⟨by omega, by omega⟩, ?_⟩
    refine ⟨_, rfl, p, dx, _, rfl, hp, fl_no q t (by decide +kernel), _, rfl, p, q, i, rfl, hq, fun r1 H1 e1 q1 => ?_⟩
    obtain ⟨⟨dx1, t1, hp1, _⟩, g1⟩ := id q1
    refine ⟨r1, dx1, _, rfl, hp1, fl_no _ t1 (by decide +kernel), _, rfl, r1, _, j, rfl, q1, fun r2 H2 e2 q2 => ?_⟩
    rw [turn_turn gq] at q2
    have e02 := e1.trans e2
    have hq2 := hq.ext e02
    refine ⟨_, rfl, p, dx, _, rfl, e02 _ _ hp, fl_no q t (by decide +kernel), _, rfl, _, rfl, _, _, rfl, rfl, p, q, i + j, rfl, hq2, fun r3 H3 e3 q3 => ?_⟩
    have q2' := q2.ext e3
    obtain ⟨dx2, t2, hp2, _⟩ := q2'.ex
    obtain ⟨dx3, t3, hp3, _⟩ := q3.ex
    refine ⟨r2, r3, dx2, dx3, _, _, true, rfl, rfl, hp2, hp3, ⟨_, _, q2', q3, (decide_eq_true rfl).symm⟩, fun H4 e4 => ⟨false, rfl, iteF ?_⟩⟩
    have e04 := (e02.trans e3).trans e4
    refine ⟨_, rfl, p, dx, _, rfl, e04 _ _ hp, fl_no q t (by decide +kernel), _, rfl, p, q, _, rfl, hq.ext e04, fun r5 H5 e5 q5 => ?_⟩
    rw [turn_many gq] at q5
    have e05 := e04.trans e5
    obtain ⟨dx5, t5, hp5, _⟩ := q5.ex
    refine ⟨_, rfl, r5, p, dx5, dx, _, _, true, rfl, rfl, hp5, e05 _ _ hp, ⟨_, _, q5, hq.ext e05, (decide_eq_true rfl).symm⟩, fun H6 e6 => ⟨false, rfl, iteF ?_⟩⟩
    have e06 := e05.trans e6
    refine ⟨_, rfl, _, rfl, by omega, by omega, fun D hD => ?_⟩
    refine lc_range (lo := 0) (n := ((q.answers.length : Nat) : Int).toNat) (fun m H' => Ext H6 H' ∧ ∃ ps : List Addr, ps.length = m ∧ TurnsAt C H' q ps ∧ H' D = some (.lst (ps.map V.ref)))
      ⟨Ext.new Ext.rfl' hD _, [], rfl, ⟨fun j z hz => by simp at hz⟩, upd_same⟩ ?_ ?_
    · rintro m H7 hm ⟨e7, ps, hl, hT, hL⟩
      have e07 := e06.trans e7
      refine ⟨rfl, yesT ?_⟩
      refine ⟨_, rfl, p, dx, _, rfl, e07 _ _ hp, fl_no q t (by decide +kernel), _, rfl, p, q, _, rfl, hq.ext e07, fun r8 H8 e8 q8 => ?_⟩
      have hL8 := e8 _ _ hL
      refine ⟨_, hL8, ?_, (e7.trans e8).new hD _, ps ++ [r8], by simp [hl], ⟨fun j z hz => ?_⟩, ?_⟩
      · rw [List.length_map]
        have : 1000 < sizeLine := by decide
        omega
      · rw [List.getElem?_append] at hz
        split at hz
        · exact ((hT.it j z hz).ext e8).updL hL8 _
        · have hj : j = m := by
            have := (List.getElem?_eq_some_iff.mp hz).1
            simp at this
            omega
          subst hj
          rw [hl, Nat.sub_self] at hz
          cases hz
          have q8' := q8.updL hL8 (.lst ((ps ++ [r8]).map V.ref))
          rw [List.map_append] at q8'
          simpa using q8'
      · rw [upd_same, List.map_append]
        rfl
    rintro H7 ⟨e7, ps, hl, hT, hL⟩
    have hl : ps.length = q.answers.length := by omega
    have e07 := e06.trans e7
    refine ⟨_, rfl, D, _, rfl, SqL.of hL, for_it walk_enum (fun m σ H' => (∃ v5 v6, σ = [some (.ref p), some (.int i), some (.int j), some (.int (q.answers.length : Nat)), some (.ref D), v5, v6]) ∧ Ext H7 H') ⟨⟨_, _, rfl⟩, Ext.rfl'⟩ (fun m σ H' _ h => SqL.of (h.2 _ _ hL)) ?_ ?_⟩
    · rintro m v σ H8 H9 hm ⟨⟨v5, v6, rfl⟩, e8⟩ ⟨tp, x, y, rfl, ntp, rfl, hx, hy⟩
      cases hx
      have hy : (ps.map V.ref)[m]? = some y := hy
      rw [List.getElem?_map] at hy
      obtain ⟨z, hz, rfl⟩ := Option.map_eq_some_iff.mp hy
      have hmn : m < q.answers.length := by
        rw [List.length_map] at hm
        omega
      have e9 : Ext H7 (upd H8 tp (.tup [.int (m : Nat), .ref z])) := e8.trans (Ext.new Ext.rfl' ntp _)
      refine ⟨tp, _, rfl, SqT.of upd_same, rfl, _, _, rfl, _, _, rfl, rfl, ?_⟩
      show tSeq _ _ _ _ (upd H8 tp (.tup [.int (m : Nat), .ref z]))
      generalize upd H8 tp (.tup [.int (m : Nat), .ref z]) = G at *
      have qz := (hT.it m z hz).ext e9
      have qp := hq.ext (e07.trans e9)
      obtain ⟨⟨dz, tz, hzG, _⟩, gz⟩ := id qz
      obtain ⟨⟨dp, tp2, hpG, _⟩, _⟩ := id qp
      -- other.answer() != one.answer() or not other.is_kin(one) or len(other) != many
      refine ⟨_, rfl, z, dz, _, rfl, hzG, fl_no _ tz (by decide +kernel), z, _, rfl, qz, _, rfl, p, dp, _, rfl, hpG, fl_no _ tp2 (by decide +kernel), p, q, rfl, qp, rfl, ?_⟩
      rw [turn_ans gq, decide_strV, decide_eq_true rfl]
      refine ⟨false, rfl, iteF ?_⟩
      refine ⟨_, rfl, z, dz, _, rfl, hzG, fl_no _ tz (by decide +kernel), _, rfl, z, p, _, _, rfl, qz, qp, rfl, true, rfl, iteF ?_⟩
      refine ⟨_, rfl, z, dz, _, rfl, hzG, z, _, rfl, qz, _, rfl, ⟨by omega, by rw [turn_len]; omega⟩, _, rfl, rfl, ?_⟩
      rw [decide_intV, turn_len, decide_eq_true rfl]
      refine ⟨false, rfl, iteF ?_⟩
      -- str(other) != str(one) or repr(other) != repr(one) or turns.index(other) != by
      refine ⟨_, rfl, z, dz, _, rfl, hzG, z, _, rfl, qz, _, rfl, _, rfl, p, dp, _, rfl, hpG, p, q, rfl, qp, _, rfl, rfl, ?_⟩
      rw [decide_strV, turn_str, decide_eq_true rfl]
      refine ⟨false, rfl, iteF ?_⟩
      refine ⟨_, rfl, z, dz, _, rfl, hzG, z, _, rfl, qz, _, rfl, _, rfl, p, dp, _, rfl, hpG, p, q, rfl, qp, _, rfl, rfl, ?_⟩
      rw [decide_strV, turn_repr, decide_eq_true rfl]
      refine ⟨false, rfl, iteF ?_⟩
      have hTG := hT.ext e9
      have hLG := e9 _ _ hL
      refine ⟨_, rfl, .inl ⟨rfl, _, SqL.of hLG⟩, _, rfl, D, z, ps, _, m, z, rfl, rfl, hLG, hTG.insB hz, hz, ?_, fun j w hj hw => ?_, fun G1 eG => ⟨_, rfl, rfl, ?_⟩⟩
      · show decide (qof C G z = q.turn (m : Nat)) = true
        rw [qof_eq qz]
        exact decide_eq_true rfl
      · show decide (qof C G w = q.turn (m : Nat)) = false
        rw [qof_eq (hTG.it j w hw)]
        refine decide_eq_false fun e => ?_
        have := turn_inj gq (by omega) hmn e
        omega
      rw [decide_intV, decide_eq_true rfl]
      refine ⟨false, rfl, iteF ?_⟩
      -- other.turned(many - by) != one or turns.count(other) != 1
      have qz1 := qz.ext eG
      have qp1 := qp.ext eG
      refine ⟨_, rfl, z, dz, _, rfl, eG _ _ hzG, fl_no _ tz (by decide +kernel), _, rfl, _, rfl, _, _, rfl, rfl, z, _, _, rfl, qz1, fun r2 G2 e2 q2 => ?_⟩
      rw [turn_turn gq, turn_zero gq (by rw [show (((m : Nat) : Int) + (((q.answers.length : Nat) : Int) - (m : Nat))) = ((q.answers.length : Nat) : Int) from by omega]; exact Int.emod_self)] at q2
      obtain ⟨dr, tr, hr2G, _⟩ := q2.ex
      have qp2 := qp1.ext e2
      refine ⟨_, rfl, r2, p, dr, dp, _, _, true, rfl, rfl, hr2G, e2 _ _ (eG _ _ hpG), ⟨_, _, q2, qp2, (decide_eq_true rfl).symm⟩, fun G3 e3 => ⟨false, rfl, iteF ?_⟩⟩
      have e93 := ((e9.trans eG).trans e2).trans e3
      have hT3 := hT.ext e93
      have hL3 := e93 _ _ hL
      refine ⟨_, rfl, .inl ⟨rfl, _, SqL.of hL3⟩, _, rfl, D, z, ps, _, rfl, rfl, hL3, hT3.insB hz, fun G4 e4 => ⟨rfl, ?_⟩⟩
      have hcount : ps.countP (fun w => decide (qof C G3 w = q.turn (m : Nat))) = 1 := by
        have h1 := List.countP_map (p := fun x => decide (x = q.turn (m : Nat))) (f := qof C G3) (l := ps)
        rw [hT3.map, List.countP_map, hl] at h1
        have h2 := count_turns gq hmn
        rw [← h2]
        exact h1.symm
      rw [decide_intV, hcount, decide_eq_true (show (((1 : Nat) : Int) = 1) from rfl)]
      exact ⟨false, rfl, iteF ⟨⟨_, _, rfl⟩, e93.trans e4⟩⟩
    · rintro σ H8 ⟨⟨v5, v6, rfl⟩, e8⟩
      exact k _ (e07.trans e8)
end
end PK
namespace PK
open PySem L2 K8
theorem FTup.but {a : Addr} {H H' : Hp} {n : Nat} {t : Addr} {xs : List V} (h : FTup H t xs) (S : Stm H a n) (b : But a H H') : FTup H' t xs := by
  obtain ⟨o, d, h⟩ := h
  obtain ⟨_, _, _, _, hs, _⟩ := S
  exact ⟨o, d, b _ _ (ne_of h hs (by intro z; cases z)) h⟩
theorem QAt.but {C a : Addr} {H H' : Hp} {n : Nat} {p : Addr} {q : Qn} (h : QAt C H p q) (S : Stm H a n) (b : But a H H') : QAt C H' p q := by
  obtain ⟨dx, t, h1, h2⟩ := h.ex
  have h2' := FTup.but h2 S b
  obtain ⟨_, _, _, _, hs, _⟩ := S
  exact ⟨⟨dx, t, b _ _ (ne_of h1 hs (by intro z; cases z)) h1, h2'⟩, h.ok⟩
theorem chg_back (q : Qn) (r t m : Int) (k : Str) : (q.chg (some r) (some t) (some m) (some k)).chg (some q.right) (some q.toil) (some q.marks) (some q.kin) = q := by
  cases q
  rfl
theorem chg_eq (q : Qn) (r t m : Int) (k : Str) : (q.chg (some r) (some t) (some m) (some k) = q) ↔ (r = q.right ∧ t = q.toil ∧ m = q.marks ∧ k = q.kin) := by
  cases q
  simp [Qn.chg]
theorem chg_good {q : Qn} (g : q.Good) {r t m : Int} {k : Str} (r0 : 0 ≤ r) (r1 : r < q.answers.length) (t0 : 1 ≤ t) (t1 : t ≤ 9) (m0 : 1 ≤ m) (m1 : m ≤ 9) (hk : k = Str.empty ∨ NameOk k) : (q.chg (some r) (some t) (some m) (some k)).Good :=
  ⟨g.nm, g.mt, g.lo, g.hi, g.tx, g.nd, r0, r1, t0, t1, m0, m1, hk⟩
theorem chg_toil {q : Qn} (g : q.Good) {t : Int} (t0 : 1 ≤ t) (t1 : t ≤ 9) : (q.chg none (some t) none none).Good :=
  ⟨g.nm, g.mt, g.lo, g.hi, g.tx, g.nd, g.r0, g.r1, t0, t1, g.m0, g.m1, g.kn⟩
theorem chg_marks {q : Qn} (g : q.Good) {t : Int} (t0 : 1 ≤ t) (t1 : t ≤ 9) : (q.chg none none (some t) none).Good :=
  ⟨g.nm, g.mt, g.lo, g.hi, g.tx, g.nd, g.r0, g.r1, g.t0, g.t1, t0, t1, g.kn⟩
def d4 (r t m : Int) (k : Str) : PyData := .tuple [.int r, .int t, .int m, .str k]
theorem d4_eqv (r t m r' t' m' : Int) (k k' : Str) : PyData.eqv (d4 r t m k) (d4 r' t' m' k') = decide (r = r' ∧ t = t' ∧ m = m' ∧ k = k') := by
  simp only [d4, PyData.eqv, PyData.eqvAll]
  rw [Bool.eq_iff_iff]
  simp
theorem d4_shaped {r t m : Int} {k : Str} (h : k = Str.empty ∨ NameOk k) : SeqAt.shaped (d4 r t m k) = true := by
  have hk : (PyData.str k).canLay0 = true := by
    rcases h with e | e
    · rw [e]
      exact ok_str fun c hc => by cases hc
    · exact ok_name_str e
  unfold SeqAt.shaped
  rw [Bool.and_eq_true, decide_eq_true_eq]
  constructor
  · rw [d4, PyData.canLay0, PyData.canLayAll0, PyData.canLayAll0, PyData.canLayAll0, PyData.canLayAll0, PyData.canLayAll0, hk]
    simp [PyData.canLay0]
  · simp [d4, PyData.depth, PyData.depthAll]
def spChangesR (C : Addr) : Sp := fun vs H Q _ => ∃ (a p : Addr) (q : Qn) (n : Nat), vs = [.ref a, .ref p] ∧ Stm H a n ∧ n + 60 ≤ LIM ∧ QAt C H p q ∧ ∀ H', But a H H' → Stm H' a (n + 50) → Q (.bl true) H'
theorem scChangesR : FnScope ["_law_stream_here", "_law_one", "_law_place", "_law_hard", "_law_worth", "_law_last", "_law_other", "_law_back", "_law_alike"] ["_law_stream_here", "_law_one"] (defScope sChangesR) := ⟨rfl, rfl, rfl, by decide +kernel, rfl, by decide +kernel, by decide +kernel⟩
section
variable {P : Program} {w : World} {K : PySem.W.Frag} {mg : Str → Option Value} {base : Heap} {B C : Addr}
theorem ok_changesr {f fT fN : Addr} {fd fdT fdN : FuncData} (F : Fun K "_law_changes_right" "_law_changes_right" sChangesR f fd) (T : T0 mg) (TC : TQ K mg C) (M : QAll P w K mg base C)
    (G1 : Callee P w K mg base CX0 2 "_law_take" fT fdT ["_law_stream_here", "_law_many"] spTake) (G2 : Callee P w K mg base CX0 3 "_law_name_by" fN fdN ["_law_stream_here"] spNameBy) :
    FnOk P w K mg base CX0 6 f fd ["_law_stream_here", "_law_one"] (spChangesR C) := by
  obtain ⟨f4, fd4, Me, Te, be⟩ := M.eq
  obtain ⟨f5, fd5, Ml⟩ := M.len
  obtain ⟨f8, fd8, Mc, mc, ⟨ga, ka⟩, ⟨gb, kb⟩, ⟨gc, kc⟩⟩ := M.changed
  refine F.ok scChangesR (fun vs H Q E h => ?_) (fun cdv A outer s H vs Q E hr h => ?_)
  · obtain ⟨a, p, q, n, rfl, _⟩ := h
    rfl
  · obtain ⟨a, p, q, n, rfl, hS, hn, hq, k⟩ := h
    have hn' : n + 60 ≤ 1000000 := hn
    have hr2 : Room 2 _ := hr.mono (by decide)
    have hr3 : Room 3 _ := hr.mono (by decide)
    refine ⟨_, pss_cons (ps_par3 (i := 2) (j := 3) (l := 4) rfl scChangesR.nd rfl rfl rfl (by decide) (by decide) (by decide) rfl rfl rfl
        (pa_cons (pe_call G1.ok hr2 (by rfl) G1.mg G1.kp G1.bd .nil pass0 (pa_cons (pv 0) (pa_cons (pe_callB (call_lenI (m := "") Ml.ok Ml.at_ Ml.fn Ml.bd pass0 hr2) (by rfl) T.len PySem.boot_len (pa_cons (pv 1) pa_nil)) pa_nil)))
        (pa_cons (pe_op op_add pe_int (pe_call G1.ok hr2 (by rfl) G1.mg G1.kp G1.bd .nil pass0 (pa_cons (pv 0) (pa_cons pe_int pa_nil)))) (pa_cons (pe_op op_add pe_int (pe_call G1.ok hr2 (by rfl) G1.mg G1.kp G1.bd .nil pass0 (pa_cons (pv 0) (pa_cons pe_int pa_nil)))) pa_nil))) (by rfl))
      (pss_cons (ps_set (i := 5) scChangesR.nd rfl (Or.inl rfl) (pe_call G2.ok hr3 (by rfl) G2.mg G2.kp G2.bd .nil pass0 (pa_cons (pv 0) pa_nil)))
      (pss_cons (ps_set (i := 6) scChangesR.nd rfl (Or.inl rfl) (pe_methN0 (pv 1) TC.cl mc Mc hr ka pass0 (pk_cons (pv 2) (pk_cons (pv 3) (pk_cons (pv 4) (pk_cons (pv 5) pk_nil))))))
      (pss_cons (ps_set (i := 7) scChangesR.nd rfl (Or.inl rfl) (pe_methN0 (pv 6) TC.cl mc Mc hr ka pass0 (pk_cons (pe_fld (pv 1) rfl) (pk_cons (pe_fld (pv 1) rfl) (pk_cons (pe_fld (pv 1) rfl) (pk_cons (pe_fld (pv 1) rfl) pk_nil))))))
      (pss_cons (ps_set (i := 8) scChangesR.nd rfl (Or.inl rfl) (pe_cmpR (op_eqD hr.units) (pe_tup (pa_cons (pv 2) (pa_cons (pv 3) (pa_cons (pv 4) (pa_cons (pv 5) pa_nil))))) (pe_tup (pa_cons (pe_fld (pv 1) rfl) (pa_cons (pe_fld (pv 1) rfl) (pa_cons (pe_fld (pv 1) rfl) (pa_cons (pe_fld (pv 1) rfl) pa_nil))))) (nomark _)))
      (pss_one (ps_ret (pe_and (pe_cmpR (op_eqB Me Te be pass0 hr2) (pv 7) (pv 1) (nomark _)) (pe_and (pe_cmpR op_eq (pe_cmpR (op_eqB Me Te be pass0 hr2) (pv 6) (pv 1) (nomark _)) (pv 8) (nomark _))
        (pe_one (pe_cmpR op_eq (pe_fld (pe_methN0 (pe_methN0 (pv 1) TC.cl mc Mc hr kb pass0 (pk_cons (pv 3) pk_nil)) TC.cl mc Mc hr kc pass0 (pk_cons (pv 4) pk_nil)) rfl) (pv 4) (nomark _))))))))))), ?_⟩
    obtain ⟨⟨dx, t, hp, ht⟩, gq⟩ := id hq
    have hlo := gq.lo
    have hhi := gq.hi
    refine ⟨_, rfl, _, rfl, p, dx, _, rfl, hp, p, q, rfl, hq, _, rfl, ⟨by omega, by omega⟩, a, (q.answers.length : Nat), n, rfl, hS, (by show n < 1000000; omega), by omega, by omega, fun r1 H1 r10 r11 b1 S1 => ?_⟩
    refine ⟨_, rfl, a, 9, n + 1, rfl, S1, (by show n + 1 < 1000000; omega), by decide, by decide, fun r2 H2 r20 r21 b2 S2 => ⟨_, _, rfl, rfl, ?_⟩⟩
    refine ⟨_, rfl, a, 9, n + 2, rfl, S2, (by show n + 2 < 1000000; omega), by decide, by decide, fun r3 H3 r30 r31 b3 S3 => ⟨_, _, rfl, rfl, _, _, _, rfl, ?_⟩⟩
    refine ⟨_, rfl, a, n + 3, rfl, S3, (by show n + 3 + 20 ≤ 1000000; omega), fun x H4 hx b4 S4 => ?_⟩
    have b04 := ((b1.trans b2).trans b3).trans b4
    have hq4 := hq.but hS b04
    obtain ⟨⟨dx4, t4, hp4, _⟩, _⟩ := id hq4
    have g1 := chg_good gq (r := r1) (t := 1 + r2) (m := 1 + r3) (k := x) r10 r11 (by omega) (by omega) (by omega) (by omega) (.inr hx)
    refine ⟨_, rfl, p, dx4, _, rfl, hp4, fl_no q t4 (by decide +kernel), _, rfl, _, rfl, _, rfl, _, rfl, rfl, rfl, ?_⟩
    refine ⟨p, q, some r1, some (1 + r2), some (1 + r3), some x, rfl, hq4, g1, fun y H5 e5 q5 => ?_⟩
    obtain ⟨⟨dx5, t5, hp5, _⟩, _⟩ := id q5
    have hp' := e5 _ _ hp4
    refine ⟨_, rfl, y, dx5, _, rfl, hp5, fl_no _ t5 (by decide +kernel), _, rfl, p, C, dx4, _, _, rfl, hp', TC.cl, TC.n4, fl_right q t4, _, rfl, p, C, dx4, _, _, rfl, hp', TC.cl, TC.n5, fl_toil q t4, ?_⟩
    refine ⟨_, rfl, p, C, dx4, _, _, rfl, hp', TC.cl, TC.n6, fl_marks q t4, _, rfl, p, C, dx4, _, _, rfl, hp', TC.cl, TC.n7, fl_kin q t4, rfl, rfl, ?_⟩
    refine ⟨y, q.chg (some r1) (some (1 + r2)) (some (1 + r3)) (some x), some q.right, some q.toil, some q.marks, some q.kin, rfl, q5, by rw [chg_back]; exact gq, fun z H6 e6 q6 => ?_⟩
    rw [chg_back] at q6
    have e56 := e5.trans e6
    have hp6 := e56 _ _ hp4
    -- the two tuples
    refine ⟨_, rfl, _, rfl, _, rfl, _, rfl, by show 4 ≤ sizeLine; decide, fun u1 nu1 => ?_⟩
    have x1 : Ext H6 (upd H6 u1 (.tup [.int r1, .int (1 + r2), .int (1 + r3), .str x])) := Ext.new Ext.rfl' nu1 _
    have hu1 : upd H6 u1 (.tup [.int r1, .int (1 + r2), .int (1 + r3), .str x]) u1 = some (.tup [.int r1, .int (1 + r2), .int (1 + r3), .str x]) := upd_same
    have hp7 := x1 _ _ hp6
    refine ⟨_, rfl, p, C, dx4, _, _, rfl, hp7, TC.cl, TC.n4, fl_right q t4, _, rfl, p, C, dx4, _, _, rfl, hp7, TC.cl, TC.n5, fl_toil q t4, ?_⟩
    refine ⟨_, rfl, p, C, dx4, _, _, rfl, hp7, TC.cl, TC.n6, fl_marks q t4, _, rfl, p, C, dx4, _, _, rfl, hp7, TC.cl, TC.n7, fl_kin q t4, by show 4 ≤ sizeLine; decide, fun u2 nu2 => ?_⟩
    have n12 : u1 ≠ u2 := fun e => by
      rw [← e] at nu2
      exact absurd (hu1.symm.trans nu2) (fun w => nomatch w)
    have x2 := x1.trans (Ext.new Ext.rfl' nu2 (.tup [.int q.right, .int q.toil, .int q.marks, .str q.kin]))
    refine ⟨d4 r1 (1 + r2) (1 + r3) x, d4 q.right q.toil q.marks q.kin, .tup (SqT.of ((upd_ne n12).trans hu1)) (.cons (.int _) (.cons (.int _) (.cons (.int _) (.cons (.str _) .nil)))), .tup (SqT.of upd_same) (.cons (.int _) (.cons (.int _) (.cons (.int _) (.cons (.str _) .nil)))),
      d4_shaped (.inr hx), d4_shaped gq.kn, ?_⟩
    rw [d4_eqv]
    -- back == one and ..
    have x04 := (e5.trans e6).trans x2
    have hq8 := hq4.ext x04
    have q58 := q5.ext (e6.trans x2)
    have q68 := q6.ext x2
    obtain ⟨dz, tz, hz, _⟩ := q68.ex
    obtain ⟨dy, ty, hy, _⟩ := q58.ex
    have hp8 := x04 _ _ hp4
    refine ⟨_, rfl, _, rfl, z, p, dz, dx4, _, _, true, rfl, rfl, hz, hp8, ⟨_, _, q68, hq8, (decide_eq_true rfl).symm⟩, fun H9 e9 => ⟨true, rfl, iteT ?_⟩⟩
    refine ⟨_, rfl, _, rfl, y, p, dy, dx4, _, _, _, rfl, rfl, e9 _ _ hy, e9 _ _ hp8, ⟨_, _, q58.ext e9, hq8.ext e9, rfl⟩, fun HA eA => ⟨_, rfl, rfl, true, ?_, iteT ?_⟩⟩
    · congr 1
      refine decide_eq_true ?_
      congr 1
      exact decide_eq_decide.mpr (chg_eq q r1 (1 + r2) (1 + r3) x)
    have xA := (x04.trans e9).trans eA
    have hqA := hq4.ext xA
    refine ⟨_, rfl, p, dx4, _, rfl, xA _ _ hp4, fl_no q t4 (by decide +kernel), _, rfl, rfl, rfl, p, q, none, some (1 + r2), none, none, rfl, hqA, chg_toil gq (by omega) (by omega), fun w1 HB eB qB => ?_⟩
    obtain ⟨⟨dB, tB, hB, _⟩, gB⟩ := id qB
    refine ⟨w1, dB, _, rfl, hB, fl_no _ tB (by decide +kernel), _, rfl, rfl, rfl, w1, _, none, none, some (1 + r3), none, rfl, qB, chg_marks gB (by omega) (by omega), fun w2 HC eC qC => ?_⟩
    obtain ⟨dC, tC, hC, _⟩ := qC.ex
    refine ⟨w2, C, dC, _, _, rfl, hC, TC.cl, TC.n6, fl_marks _ tC, _, rfl, rfl, ?_⟩
    show Q (.bl (decide (V.int (1 + r3) = V.int (1 + r3)))) HC
    rw [decide_eq_true rfl]
    have xC := (xA.trans eB).trans eC
    exact k _ (b04.ext xC) ((S4.ext xC).mono (by omega))
end
end PK
namespace PK
open PySem L2 K8
/-! ### the sorted list -/
theorem le_total (qf : Addr → Qn) : PySem.W.TotalLe (PySem.W.dataLe false fun y => kd (kOf (qf y))) := PySem.W.sortLe_total _ false _
theorem srt_perm (qf : Addr → Qn) (ps : List Addr) : (srt qf ps).Perm ps := List.mergeSort_perm _ _
theorem srt_le (qf : Addr → Qn) {a b : Addr} (h : PySem.W.dataLe false (fun y => kd (kOf (qf y))) a b = true) : (qf a).toil ≤ (qf b).toil := by
  rw [PySem.W.dataLe_eq] at h
  have h : (!PySem.W.dataLt (kd (kOf (qf b))) (kd (kOf (qf a)))) = true := h
  by_cases hlt : (qf b).toil < (qf a).toil
  · have e : PySem.W.dataLt (kd (kOf (qf b))) (kd (kOf (qf a))) = true := by
      unfold kd
      rw [PySem.W.dataLt_tuple, PySem.W.dataLt_all_no (by simp [PySem.W.alike]) (by simp [PyData.eqv, kOf]; omega), PySem.W.dataLt_int]
      exact decide_eq_true hlt
    rw [e] at h
    cases h
  · omega
theorem srt_sorted (qf : Addr → Qn) (ps : List Addr) : ((srt qf ps).map fun p => (qf p).toil).Pairwise (· ≤ ·) := by
  rw [List.pairwise_map]
  exact (PySem.W.sort_pairwise (le_total qf) ps).imp fun h => srt_le qf h
theorem srt_srt (qf : Addr → Qn) (ps : List Addr) : srt qf (srt qf ps) = srt qf ps :=
  (PySem.W.sort_unique (le_total qf) (PySem.W.sort_pairwise (le_total qf) ps) fun _ => rfl).symm
theorem sum_perm {xs ys : List Int} (h : xs.Perm ys) : xs.sum = ys.sum := by
  induction h with
  | nil => rfl
  | cons x _ ih => simp [ih]
  | swap x y l => simp; omega
  | trans _ _ h1 h2 => exact h1.trans h2
theorem sorted_eq {xs ys : List Int} (h : xs.Perm ys) (hx : xs.Pairwise (· ≤ ·)) (hy : ys.Pairwise (· ≤ ·)) : xs = ys :=
  h.eq_of_pairwise (le := (· ≤ ·)) (fun a b _ _ h1 h2 => Int.le_antisymm h1 h2) hx hy
theorem ints_eqv (xs : List Int) : PyData.eqv (.list (xs.map PyData.int)) (.list (xs.map PyData.int)) = true := by
  refine SeqAt.eqv_refl _ ?_
  rw [PyData.canLay0]
  induction xs with
  | nil => simp [PyData.canLayAll0]
  | cons x xs ih =>
    rw [List.map_cons, PyData.canLayAll0, ih]
    simp [PyData.canLay0]
theorem ints_shaped (xs : List Int) : SeqAt.shaped (.list (xs.map PyData.int)) = true := by
  unfold SeqAt.shaped
  rw [Bool.and_eq_true, decide_eq_true_eq]
  constructor
  · rw [PyData.canLay0]
    induction xs with
    | nil => simp [PyData.canLayAll0]
    | cons x xs ih =>
      rw [List.map_cons, PyData.canLayAll0, ih]
      simp [PyData.canLay0]
  · have : PyData.depthAll (xs.map PyData.int) ≤ 1 := by
      induction xs with
      | nil => simp [PyData.depthAll]
      | cons x xs ih =>
        simp [PyData.depthAll, PyData.depth]
        exact ih
    simp [PyData.depth]
    omega
end PK
namespace PK
open PySem L2 K8 LamX
theorem cut_take (xs : List V) (k : Nat) : cutV xs none (some (k : Int)) = xs.take k := by
  unfold cutV
  rw [HT.sIx_nat, HT.sIx_none, List.drop_zero, Nat.sub_zero]
  by_cases h : k ≤ xs.length
  · rw [Nat.min_eq_left h]
  · rw [Nat.min_eq_right (by omega), List.take_length, List.take_of_length_le (by omega)]
theorem cut_drop (xs : List V) (k : Nat) : cutV xs (some (k : Int)) none = xs.drop k := by
  unfold cutV
  rw [HT.sIx_nat, HT.sIx_none]
  by_cases h : k ≤ xs.length
  · rw [Nat.min_eq_left h, List.take_of_length_le (by rw [List.length_drop]; exact Nat.le_refl _)]
  · rw [Nat.min_eq_right (by omega), List.drop_length, List.drop_of_length_le (by omega)]
    simp
theorem QsAt.insB {C l : Addr} {H : Hp} {ps : List Addr} {qf : Addr → Qn} (h : QsAt C H l ps qf) {y : Addr} (hy : QAt C H y (qf y)) : InsB C (REq C) (fun z => decide (qf z = qf y)) y ps H := by
  obtain ⟨dy, ty, hy1, _⟩ := hy.ex
  refine ⟨⟨dy, _, hy1⟩, fun z hz => ?_⟩
  have qz := h.it z hz
  obtain ⟨dz, tz, hz1, _⟩ := qz.ex
  exact ⟨⟨dz, _, hz1⟩, ⟨_, _, qz, hy, rfl⟩, fun e => by rw [e]; exact decide_eq_true rfl⟩
theorem ExtN.ofExt {H H' : Hp} (e : Ext H H') : ExtN H H' := ExtN.of e
theorem dp_ints {K : PySem.W.Frag} {H : Hp} : ∀ xs : List Int, DpAll K H (xs.map V.int) (xs.map PyData.int)
  | [] => .nil
  | x :: xs => .cons (.int x) (dp_ints xs)
def spSumsR (C : Addr) (Tb : List (Addr × Str)) : Sp := fun vs H Q _ => ∃ (l : Addr) (ps : List Addr) (qf : Addr → Qn), vs = [.ref l] ∧ QsAt C H l ps qf ∧ Tabs Tb H ∧ ∀ H', ExtN H H' → Tabs Tb H' → Q (.bl true) H'
theorem scSumsR : FnScope ["_law_rows", "_law_found", "_law_toils", "_law_one"] ["_law_rows"] (defScope sSumsR) := ⟨rfl, rfl, rfl, by decide +kernel, rfl, by decide +kernel, by decide +kernel⟩
/-- toil_sum with its default and by its keyword -/
structure SumCal (P : Program) (w : World) (K : PySem.W.Frag) (mg : Str → Option Value) (base : Heap) (C f : Addr) (fd : FuncData) : Prop where
  ok : FnOk P w K mg base CX0 3 f fd ["questions", "start"] (spToilSum C)
  mg : mg "toil_sum" = some (.ref f)
  kp : PySem.W.keepIn K (.ref f) = true
  b0 : ∃ ds, Vals [V.int 0] ds ∧ Binds K fd ["questions", "start"] ds
  k1 : ∃ g, KBn K fd ["questions", "start"] 1 ["start"] g (fun vs zs => vs ++ zs)
section
variable {P : Program} {w : World} {K : PySem.W.Frag} {mg : Str → Option Value} {base : Heap} {B C : Addr}
theorem ok_sumsr {Tb : List (Addr × Str)} {f fB fS : Addr} {fd fdB fdS : FuncData} (F : Fun K "_law_sums_right" "_law_sums_right" sSumsR f fd) (T : T0 mg) (TC : TQ K mg C) (M : QAll P w K mg base C)
    (G1 : Callee P w K mg base CX0 4 "by_toil" fB fdB ["questions"] (spByToil C Tb)) (G2 : SumCal P w K mg base C fS fdS) : FnOk P w K mg base CX0 5 f fd ["_law_rows"] (spSumsR C Tb) := by
  obtain ⟨f4, fd4, Me, Te, be⟩ := M.eq
  obtain ⟨ds, rds, bds⟩ := G2.b0
  obtain ⟨g1, k1⟩ := G2.k1
  refine F.ok scSumsR (fun vs H Q E h => ?_) (fun cdv A outer s H vs Q E hr h => ?_)
  · obtain ⟨l, ps, qf, rfl, _⟩ := h
    rfl
  · obtain ⟨l, ps, qf, rfl, hL, hT, k⟩ := h
    have hr2 : Room 2 _ := hr.mono (by decide)
    have hr3 : Room 3 _ := hr.mono (by decide)
    refine ⟨_, pss_cons (ps_set (i := 1) scSumsR.nd rfl (Or.inr rfl) (pe_call G1.ok hr (by rfl) G1.mg G1.kp G1.bd .nil pass0 (pa_cons (pv 0) pa_nil)))
      (pss_cons (ps_setLc (i := 2) (own := [("_law_one", 3)]) (g := gName 3) (tt := tYes) (te := tFld K (tVar 3) "toil") rfl scSumsR.nd rfl rfl (sw_true rfl rfl rfl (by decide +kernel)) (pi_list (pv 1))
          (blkOk_by (N := ["_law_rows", "_law_found", "_law_toils", "_law_one"]) (sc := defScope sSumsR) (by decide +kernel)) (fun _ _ _ _ _ => pg_name (i := 3) scSumsR.nd rfl (Or.inl rfl)) (fun _ _ _ _ _ => pts_nil) (fun _ _ _ _ _ => pe_fld (pv 3) rfl))
      (pss_cons (ps_if (PW.pt (pw_or (pt_cmpR (op_neD hr.units) (pv 2) (pe_callB cr_sortedI (by rfl) T.sorted (by decide +kernel) (pa_cons (pv 2) pa_nil)) (nomark _))
          (pw_or (pt_cmpR op_ne (pe_call G2.ok hr3 (by rfl) G2.mg G2.kp bds rds pass0 (pa_cons (pv 1) pa_nil)) (pe_call G2.ok hr3 (by rfl) G2.mg G2.kp bds rds pass0 (pa_cons (pv 0) pa_nil)) (nomark _))
          (pw_or1 (pt_cmpR op_ne (pe_callB call_len_seq (by rfl) T.len PySem.boot_len (pa_cons (pv 1) pa_nil)) (pe_callB call_len_seq (by rfl) T.len PySem.boot_len (pa_cons (pv 0) pa_nil)) (nomark _)))))) (pss_one (ps_ret pe_bl)) pss_nil)
      (pss_cons (ps_if (PW.pt (pw_or (pt_cmpR (op_neSame hr) (pe_call G1.ok hr (by rfl) G1.mg G1.kp G1.bd .nil pass0 (pa_cons (pv 1) pa_nil)) (pv 1) (nomark _))
          (pw_or1 (pt_cmpR op_ne (pe_callN G2.ok hr3 (by rfl) G2.mg G2.kp k1 pass0 (pa_cons (pe_slice sl_list (pv 0) po_none (po_some pe_int)) pa_nil) (pk_cons (pe_call G2.ok hr3 (by rfl) G2.mg G2.kp bds rds pass0 (pa_cons (pe_slice sl_list (pv 0) (po_some pe_int) po_none) pa_nil)) pk_nil))
            (pe_call G2.ok hr3 (by rfl) G2.mg G2.kp bds rds pass0 (pa_cons (pv 0) pa_nil)) (nomark _))))) (pss_one (ps_ret pe_bl)) pss_nil)
      (pss_one (ps_ret (pe_callB (cr_all rfl) (by rfl) T.all (by decide +kernel) (pa_cons (pe_lc (own := [("_law_one", 3)]) (g := gName 3) (tt := tYes) (te := tOp rEq (tBM K "list" (rCountB C (REq C)) (tVar 1) (tCons (tVar 3) tNil)) (tBM K "list" (rCountB C (REq C)) (tVar 0) (tCons (tVar 3) tNil)))
          rfl scSumsR.nd (pi_list (pv 0)) (blkOk_by (N := ["_law_rows", "_law_found", "_law_toils", "_law_one"]) (sc := defScope sSumsR) (by decide +kernel)) (fun _ _ _ _ _ => pg_name (i := 3) scSumsR.nd rfl (Or.inl rfl)) (fun _ _ _ _ _ => pts_nil)
          (fun _ _ _ _ _ => pe_cmpR op_eq (pe_bm PySem.F.plainAttrs_list PySem.F.slot_list_count PySem.F.type_list_count (mt_countB (REq.mon C) Me Te be pass0 hr3) (pv 1) (pa_cons (pv 3) pa_nil)) (pe_bm PySem.F.plainAttrs_list PySem.F.slot_list_count PySem.F.type_list_count (mt_countB (REq.mon C) Me Te be pass0 hr3) (pv 0) (pa_cons (pv 3) pa_nil)) (nomark _))) pa_nil))))))), ?_⟩
    have hperm := srt_perm qf ps
    have hfew := hL.few
    have hbig : 1000 < sizeLine := by decide
    refine ⟨_, rfl, l, ps, qf, rfl, hL, hT, fun r H1 e1 T1 hr1 => ?_⟩
    have hL1 := hL.extN e1
    have hF1 : QsAt C H1 r (srt qf ps) qf := ⟨hr1, fun p hp => hL1.it p (hperm.mem_iff.mp hp), by rw [hperm.length_eq]; exact hfew⟩
    refine ⟨_, rfl, r, rfl, ⟨_, SqL.of hF1.at_⟩, fun D hD => ?_⟩
    refine lc_list (K := K) (a := r) (xs := (srt qf ps).map V.ref) (fun i H' => Ext H1 H' ∧ H' D = some (.lst (lv (fun i => .int (qf ((srt qf ps).getD i 0)).toil) i))) ⟨Ext.new Ext.rfl' hD _, upd_same⟩ (fun i H' _ h => SqL.of (hF1.ext h.1).at_) ?_ ?_
    · rintro i y H2 hi ⟨e, hDD⟩
      rw [List.getElem?_map] at hi
      obtain ⟨p, hp, rfl⟩ := Option.map_eq_some_iff.mp hi
      obtain ⟨⟨dx, t, hp1, ht⟩, gq⟩ := (hF1.ext e).it p (List.mem_of_getElem? hp)
      refine ⟨rfl, yesT ?_⟩
      refine ⟨_, rfl, p, C, dx, _, _, rfl, hp1, TC.cl, TC.n5, fl_toil _ t, _, hDD, ?_, e.new hD _, lv_step ?_⟩
      · rw [lv_len]
        have h1 := (List.getElem?_eq_some_iff.mp hp).1
        rw [hperm.length_eq] at h1
        omega
      · rw [getD_of hp]
    rintro H2 ⟨e2, hDD⟩
    rw [List.length_map, lv_of (srt qf ps) 0 (fun p => .int (qf p).toil)] at hDD
    have hDI : H2 D = some (.lst (((srt qf ps).map fun p => (qf p).toil).map V.int)) := by
      rw [hDD, List.map_map]
      rfl
    -- toils != sorted(toils) or ..
    refine ⟨_, rfl, _, rfl, D, _, rfl, SqL.of hDI, fun ns p hpm hpw np => ?_⟩
    have hns : ns = (srt qf ps).map fun p => (qf p).toil := sorted_eq hpm hpw (srt_sorted qf ps)
    subst hns
    have e3 := e2.trans (Ext.new Ext.rfl' np (.lst (((srt qf ps).map fun p => (qf p).toil).map V.int)))
    refine ⟨.list _, .list _, .lst (SqL.of ((upd_ne (ne_of_none hDI np)).trans hDI)) (dp_ints _), .lst (SqL.of upd_same) (dp_ints _), ints_shaped _, ints_shaped _, ?_⟩
    rw [ints_eqv]
    refine ⟨false, rfl, iteF ?_⟩
    have hsum : ((srt qf ps).map fun p => (qf p).toil).sum = (ps.map fun p => (qf p).toil).sum := sum_perm (hperm.map _)
    refine ⟨_, rfl, r, srt qf ps, qf, 0, rfl, hF1.ext e3, fun H4 e4 => ?_⟩
    have e14 := e3.trans e4
    refine ⟨_, rfl, l, ps, qf, 0, rfl, hL1.ext e14, fun H5 e5 => ⟨rfl, ?_⟩⟩
    rw [decide_intV, hsum, decide_eq_true rfl]
    refine ⟨false, rfl, iteF ?_⟩
    have e15 := e14.trans e5
    have hF5 := hF1.ext e15
    have hL5 := hL1.ext e15
    refine ⟨_, rfl, r, _, rfl, .inl (SqL.of hF5.at_), _, rfl, l, _, rfl, .inl (SqL.of hL5.at_), rfl, ?_⟩
    rw [decide_intV, List.length_map, List.length_map, hperm.length_eq, decide_eq_true rfl]
    refine ⟨false, rfl, iteF ?_⟩
    -- by_toil(found) != found or ..
    have T5 := T1.ext e15
    refine ⟨_, rfl, r, srt qf ps, qf, rfl, hF5, T5, fun r2 H6 e6 T6 hr6 => ?_⟩
    rw [srt_srt] at hr6
    have hF6 := hF5.extN e6
    have hL6 := hL5.extN e6
    refine ⟨_, rfl, r2, r, _, rfl, rfl, hr6, hF6.at_, false, rfl, iteF ?_⟩
    refine ⟨_, rfl, _, rfl, l, _, rfl, SqL.of hL6.at_, fun p1 np1 => ?_⟩
    have x1 := Ext.new Ext.rfl' np1 (.lst (cutV (ps.map V.ref) none (some 2)))
    have hp1 : upd H6 p1 (.lst (cutV (ps.map V.ref) none (some 2))) p1 = some (.lst ((ps.take 2).map V.ref)) := by
      rw [upd_same, show (2 : Int) = ((2 : Nat) : Int) from rfl, cut_take, List.map_take]
    generalize upd H6 p1 (.lst (cutV (ps.map V.ref) none (some 2))) = H7 at *
    have hL7 := hL6.ext x1
    refine ⟨_, rfl, _, rfl, l, _, rfl, SqL.of hL7.at_, fun p2 np2 => ?_⟩
    have x2 := Ext.new Ext.rfl' np2 (.lst (cutV (ps.map V.ref) (some 2) none))
    have hp2 : upd H7 p2 (.lst (cutV (ps.map V.ref) (some 2) none)) p2 = some (.lst ((ps.drop 2).map V.ref)) := by
      rw [upd_same, show (2 : Int) = ((2 : Nat) : Int) from rfl, cut_drop, List.map_drop]
    generalize upd H7 p2 (.lst (cutV (ps.map V.ref) (some 2) none)) = H8 at *
    have hL8 := hL7.ext x2
    refine ⟨p2, ps.drop 2, qf, 0, rfl, ⟨hp2, fun p hp => hL8.it p (List.mem_of_mem_drop hp), by rw [List.length_drop]; omega⟩, fun H9 e9 => ?_⟩
    have hL9 := hL8.ext e9
    refine ⟨rfl, rfl, p1, ps.take 2, qf, _, rfl, ⟨e9 _ _ (x2 _ _ hp1), fun p hp => hL9.it p (List.mem_of_mem_take hp), by rw [List.length_take]; omega⟩, fun HA eA => ?_⟩
    have hLA := hL9.ext eA
    refine ⟨_, rfl, l, ps, qf, 0, rfl, hLA, fun HB eB => ⟨rfl, ?_⟩⟩
    have hcut : 0 + ((ps.drop 2).map fun p => (qf p).toil).sum + ((ps.take 2).map fun p => (qf p).toil).sum = 0 + (ps.map fun p => (qf p).toil).sum := by
      have h1 := congrArg (fun z => (z.map fun p => (qf p).toil).sum) (List.take_append_drop 2 ps)
      simp only [List.map_append, List.sum_append] at h1
      omega
    rw [decide_intV, decide_eq_true hcut]
    refine ⟨false, rfl, iteF ?_⟩
    -- all([found.count(one) == rows.count(one) for one in rows])
    have e6B := (((x1.trans x2).trans e9).trans eA).trans eB
    have hLB := hLA.ext eB
    have hFB := hF6.ext e6B
    refine ⟨_, rfl, l, rfl, ⟨_, SqL.of hLB.at_⟩, fun D2 hD2 => ?_⟩
    refine lc_list (K := K) (a := l) (xs := ps.map V.ref) (fun i H' => Ext HB H' ∧ H' D2 = some (.lst ((List.replicate i true).map V.bl))) ⟨Ext.new Ext.rfl' hD2 _, upd_same⟩ (fun i H' _ h => SqL.of (hLB.ext h.1).at_) ?_ ?_
    · rintro i y HC hi ⟨e, hDD⟩
      rw [List.getElem?_map] at hi
      obtain ⟨p, hp, rfl⟩ := Option.map_eq_some_iff.mp hi
      have hLC := hLB.ext e
      have hFC := hFB.ext e
      have qp := hLC.it p (List.mem_of_getElem? hp)
      refine ⟨rfl, yesT ?_⟩
      refine ⟨_, rfl, .inl ⟨rfl, _, SqL.of hFC.at_⟩, _, rfl, r, p, _, _, rfl, rfl, hFC.at_, hFC.insB qp, fun HD eD => ?_⟩
      have hLD := hLC.ext eD
      refine ⟨_, rfl, .inl ⟨rfl, _, SqL.of hLD.at_⟩, _, rfl, l, p, _, _, rfl, rfl, hLD.at_, hLD.insB (qp.ext eD), fun HE eE => ⟨rfl, ?_⟩⟩
      rw [decide_intV, hperm.countP_eq, decide_eq_true rfl]
      refine ⟨_, (eD.trans eE) _ _ hDD, ?_, ((e.trans eD).trans eE).new hD2 _, ?_⟩
      · rw [List.length_map, List.length_replicate]
        have h1 := (List.getElem?_eq_some_iff.mp hp).1
        omega
      · rw [upd_same, ← rep_snoc, List.map_append]
        rfl
    · rintro HC ⟨e, hDD⟩
      refine ⟨D2, _, rfl, SqL.of hDD, ?_⟩
      rw [all_true]
      exact k _ ((e1.trans (ExtN.of e15)).trans (e6.trans (ExtN.of (e6B.trans e)))) (T6.ext (e6B.trans e))
end
end PK
namespace K8
open PySem PySem.Spec PyProof.Rows L2
/-! ### a new instance whose __init__ may raise, within a try -/
def tMakeS (C : Addr) (sp : Sp) (dvs : List V) (E : L2.St → XK) (t : TA) : TE := fun σ H Q => t σ H fun vs H1 => ∀ x dx, H1 x = none → H1 dx = none → dx ≠ x → sp (.ref x :: (vs ++ dvs)) (upd (upd H1 dx (.own x)) x (.ins C dx [])) (fun v H2 => v = .non ∧ Q (.ref x) H2) (E σ)
section
variable {X : Cx} {CX : CXT} {k : Nat} {f C : Addr} {fd : FuncData} {ps : List Str} {sp : Sp} {dvs : List V} {ds : List Value} {E : L2.St → XK} {x : Str} {p pos : Pos} {e : Expr} {es : List Expr} {t : TA}
theorem pe_makeS (M : Mk X.K C f) (F : FnOk X.prog X.w X.K X.mg X.base CX k f fd ps sp) (hr : Room (k + 1) X.A) (hg : Gl X x) (hm : X.mg x = some (.ref C)) (hb : Binds X.K fd ps ds) (hd : Vals dvs ds) (hx : ∀ σ, PassesAt CX X σ (E σ))
    (ha : PA X (e :: es) t) (hdb : (x == ("__debug__" : Str)) = false := by decide) (he : starEach (e :: es) X.env = (false, eval e X.env) :: starEach es X.env := by rfl) (hpl : (backTo pos (starEach es X.env)).any (·.1) = false := by rfl) :
    PE X (.Call (.Name x p) (e :: es) [] pos) (tMakeS C sp dvs E t) := by
  refine ⟨fun pins s0 σ H0 Q I0 h0 => ?_⟩
  refine wpAny_Call_Name_kw (ld_glob I0 hg hm ?_ hdb)
  refine PySem.W.callWith_K (h₀ := X.base) I0.ok.mod.kin M.kp (thn (ha.run pos pins s0 σ H0 _ I0 h0) fun us s hz => ?_) he hpl
  obtain ⟨vs, H, I, r, q⟩ := hz
  refine ⟨I.kIn, ?_⟩
  have hq := q (s.heap.objs.size + 1) s.heap.objs.size (I.hok.fresh (Nat.le_succ _)) (I.hok.fresh (Nat.le_refl _)) (Nat.ne_of_lt (Nat.lt_succ_self _))
  have I1 := Inv.made (C := C) I
  have rr : Vals (V.ref (s.heap.objs.size + 1) :: (vs ++ dvs)) (Value.ref (s.heap.objs.size + 1) :: (us ++ ds)) := .cons rfl (r.append hd)
  have ll : (Value.ref (s.heap.objs.size + 1) :: us ++ ds).length = ps.length := by
    have e1 := rr.length
    rw [F.len _ _ _ _ hq] at e1
    exact e1.symm
  have run := F.run _ X.stack _ _ ⟨Value.ref (s.heap.objs.size + 1) :: us, []⟩ (Value.ref (s.heap.objs.size + 1) :: (us ++ ds)) _ _ (E σ) (hr.make C us []) (I1.env0.make C us []) (hb _ (Value.ref (s.heap.objs.size + 1) :: us) I1.kIn ll) rr hq
  refine wpAny_call (make_map (f := f) I.kIn M.makes M.init (beq_iff_eq.mp M.fn) (codeAny_mono run fun res s' hres => ?_))
  cases res with
  | error er => exact hx σ pins _ _ er s' I1 hres
  | ok fl =>
    cases fl with
    | ret u =>
      obtain ⟨v, H2, I2, rv, ev, q2⟩ := I1.after hres
      subst ev
      exact ⟨rv, ⟨V.ref (s.heap.objs.size + 1), H2, I2, rfl, q2⟩⟩
    | next => exact False.elim hres
    | brk => exact False.elim hres
    | cont => exact False.elim hres
end
end K8
namespace K8
open PySem PySem.Spec PyProof.Rows L2
/-! ### list + list, however they stand -/
def rCatL (K : PySem.W.Frag) : R2 := fun x y H Q => ∃ l b xs zs, x = .ref l ∧ y = .ref b ∧ SqL K H l xs ∧ SqL K H b zs ∧ xs.length + zs.length ≤ sizeLine ∧ ∀ p, H p = none → Q (.ref p) (upd H p (.lst (xs ++ zs)))
theorem op_catL {X : Cx} : OpR X (binaryOp .Add) (rCatL X.K) := by
  intro pins s σ H x y v u Q I rx ry h
  obtain ⟨l, b, xs, zs, rfl, rfl, hl, hb, hz, q⟩ := h
  cases rx
  cases ry
  obtain ⟨its, r1, p1, z1⟩ := I.list hl
  obtain ⟨its2, r2, p2, z2⟩ := I.list hb
  obtain ⟨⟨c1, dd, dt, sl⟩, ho, hc, n, hd⟩ := p1.isList
  obtain ⟨⟨c2, dd2, dt2, sl2⟩, ho2, hc2, n2, hd2⟩ := p2.isList
  dsimp only at hc hd hc2 hd2
  subst hc hd hc2 hd2
  have e1 := r1.length
  have e2 := r2.length
  refine concat_meets ⟨_, ho, rfl⟩ ⟨_, ho2, rfl⟩ noFill_list_add seq_list_add PySem.F.slot_list_add PySem.F.entry_list_add (PySem.F.args_list_add_2 _ _)
    (list_addW l b its.toArray its2.toArray n n2 dd dd2 sl sl2 (by rw [List.size_toArray, List.size_toArray]; omega)) ⟨ho, ho2, ?_⟩
  have ea : its.toArray ++ its2.toArray = (its ++ its2).toArray := by simp
  rw [ea]
  exact ⟨.ref _, _, I.lnew (t' := s.toks) (r1.append r2) (by rw [List.length_append]; omega), rfl, q _ I.fresh⟩
end K8
namespace PK
open PySem L2 K8
/-! ### texts -/
theorem sp_ok {r : Int} (h0 : 0 ≤ r) (h1 : r ≤ 3) : MulOk " " r ∧ (Txt.mul " " r).length ≤ 3 ∧ ∀ c ∈ (Txt.mul " " r).cps.toList, c ∈ sgnT.cps.toList := by
  have h : r = 0 ∨ r = 1 ∨ r = 2 ∨ r = 3 := by omega
  rcases h with rfl | rfl | rfl | rfl
  · exact ⟨by unfold MulOk; decide +kernel, by decide +kernel, by decide +kernel⟩
  · exact ⟨by unfold MulOk; decide +kernel, by decide +kernel, by decide +kernel⟩
  · exact ⟨by unfold MulOk; decide +kernel, by decide +kernel, by decide +kernel⟩
  · exact ⟨by unfold MulOk; decide +kernel, by decide +kernel, by decide +kernel⟩
theorem app_in {x y : Str} (hx : ∀ c ∈ x.cps.toList, c ∈ sgnT.cps.toList) (hy : ∀ c ∈ y.cps.toList, c ∈ sgnT.cps.toList) : ∀ c ∈ (x ++ y).cps.toList, c ∈ sgnT.cps.toList := by
  intro c hc
  have hc : c ∈ TL.tl (x ++ y) := hc
  rw [TL.tl_append] at hc
  rcases List.mem_append.mp hc with h | h
  · exact hx c h
  · exact hy c h
abbrev tild : Str := "~ ~ ~"
theorem tild_ok : TextOk tild := ⟨⟨by decide +kernel, strip_fix ⟨by decide +kernel, by decide +kernel⟩⟩, by decide +kernel, by decide +kernel⟩
theorem a_ok : NameOk "a" := ⟨by decide +kernel, by decide +kernel, by decide +kernel⟩
theorem b_ok : NameOk "b" := ⟨by decide +kernel, by decide +kernel, by decide +kernel⟩
def q0 (x : Str) : Qn := ⟨"a", "b", [tild, x], 0, 5, 1, Str.empty⟩
theorem q0_near {x : Str} (h : Clean x) (hl : x.length ≤ 100000) : (q0 x).Near := by
  refine ⟨a_ok, b_ok, by show 2 ≤ 2; decide, by show 2 ≤ 6; decide, ?_, by show (0 : Int) ≤ 0; decide, by show (0 : Int) < ((2 : Nat) : Int); decide, by show (1 : Int) ≤ 5; decide, by show (5 : Int) ≤ 9; decide, by show (1 : Int) ≤ 1; decide, by show (1 : Int) ≤ 9; decide, .inl rfl⟩
  intro y hy
  have hy : y ∈ [tild, x] := hy
  rcases List.mem_cons.mp hy with rfl | hy
  · exact ⟨tild_ok.cl, by have := tild_ok.hi; omega⟩
  · rw [List.mem_singleton.mp hy]
    exact ⟨h, hl⟩
theorem q0_fits (x : Str) : (q0 x).fits = (lenOk x && !decide (x = tild)) := by
  show ([tild, x].all lenOk && decide [tild, x].Nodup) = _
  have h1 : lenOk tild = true := by decide +kernel
  rw [Bool.eq_iff_iff]
  simp [h1]
  intro _
  exact ⟨fun h e => h e.symm, fun h e => h e.symm⟩
theorem q0_empty : Str.ofString "" = Str.empty := by decide +kernel
def spTextsR : Sp := fun vs H Q _ => ∃ (a : Addr) (n : Nat), vs = [.ref a] ∧ Stm H a n ∧ n + 200 ≤ LIM ∧ ∀ H', But a H H' → Stm H' a (n + 150) → Q (.bl true) H'
theorem scTextsR : FnScope ["_law_stream_here", "_law_text", "_law_turn", "_law_short", "_law_made", "error"] ["_law_stream_here"] (defScope sTextsR) := ⟨rfl, rfl, rfl, by decide +kernel, rfl, by decide +kernel, by decide +kernel⟩
/-- what the try asks of BadQuestion -/
structure TX (K : PySem.W.Frag) (mg : Str → Option Value) (B : Addr) : Prop where
  xf : XfC K B
  pa : PySem.W.findIn K (.ref B) "part" = some none
  ex : PySem.W.exmOne K (.ref B) (.ref B) = some true
  mgB : mg "BadQuestion" = some (.ref B)
section
variable {P : Program} {w : World} {K : PySem.W.Frag} {mg : Str → Option Value} {base : Heap} {B C : Addr}
theorem ok_textsr {f f1 f2 f3 f4 f5 : Addr} {fd fd1 fd2 fd3 fd4 fd5 : FuncData} (F : Fun K "_law_texts_right" "_law_texts_right" sTextsR f fd) (T : T0 mg) (TC : TQ K mg C) (TBX : TX K mg B)
    (G1 : Callee P w K mg base CX0 2 "_law_take" f1 fd1 ["_law_stream_here", "_law_many"] spTake) (G2 : Callee P w K mg base CX0 3 "_law_text_by" f2 fd2 ["_law_stream_here"] spTextBy)
    (G3 : Callee P w K mg base CX0 1 "squeezed" f3 fd3 ["text"] spSq) (G4 : Callee P w K mg base CX0 1 "is_text" f4 fd4 ["thing"] spText) (G5 : QMkL P w K mg base C B f5 fd5) : FnOk P w K mg base CX0 5 f fd ["_law_stream_here"] spTextsR := by
  obtain ⟨ds, rds, b4⟩ := G5.b4
  refine F.ok scTextsR (fun vs H Q E h => ?_) (fun cdv A outer s H vs Q E hr h => ?_)
  · obtain ⟨a, n, rfl, _⟩ := h
    rfl
  · obtain ⟨a, n, rfl, hS, hn, k⟩ := h
    have hn' : n + 200 ≤ 1000000 := hn
    have hr1 : Room 1 _ := hr.mono (by decide)
    have hr2 : Room 2 _ := hr.mono (by decide)
    have hr3 : Room 3 _ := hr.mono (by decide)
    refine ⟨_, pss_cons (ps_set (i := 1) scTextsR.nd rfl (Or.inl rfl) (pe_op op_mulS pe_str (pe_call G1.ok hr2 (by rfl) G1.mg G1.kp G1.bd .nil pass0 (pa_cons (pv 0) (pa_cons pe_int pa_nil)))))
      (pss_cons (ps_for PassesOwn.never rfl (pi_range1 (by rfl) T.range (pa_cons (pe_call G1.ok hr2 (by rfl) G1.mg G1.kp G1.bd .nil pass0 (pa_cons (pv 0) (pa_cons pe_int pa_nil))) pa_nil)) (pg_name (i := 2) scTextsR.nd rfl (Or.inl rfl))
        (pss_one (ps_set (i := 1) scTextsR.nd rfl (Or.inl rfl) (pe_op op_add_str (pe_op op_add_str (pv 1) (pe_call G2.ok hr3 (by rfl) G2.mg G2.kp G2.bd .nil pass0 (pa_cons (pv 0) pa_nil))) (pe_op op_mulS pe_str (pe_call G1.ok hr2 (by rfl) G1.mg G1.kp G1.bd .nil pass0 (pa_cons (pv 0) (pa_cons pe_int pa_nil))))))))
      (pss_cons (ps_set (i := 3) scTextsR.nd rfl (Or.inl rfl) (pe_call G3.ok hr1 (by rfl) G3.mg G3.kp G3.bd .nil pass0 (pa_cons (pv 1) pa_nil)))
      (pss_cons (ps_set (i := 4) scTextsR.nd rfl (Or.inl rfl) pe_bl)
      (pss_cons (ps_try_as (i := 5) rfl rfl scTextsR.nd rfl rfl ⟨rfl, by decide, .inl TBX.mgB⟩ takes0 (fun W pn xe tk _ => pss_one (ps_expr (pe_makeS G5.q.mkc G5.q.ok hr (by rfl) TC.mgC b4 rds (fun σ => passAt tk σ) (pa_cons pe_str (pa_cons pe_str (pa_cons (pe_tupF (pa_cons pe_str (pa_cons (pv 3) pa_nil))) pa_nil))))))
        (fun a oe cls d pn hz hf => pss_one (ps_set (i := 4) scTextsR.nd rfl (Or.inl rfl) (pe_cmpR op_ne (pe_xf TBX.xf TBX.pa hz hf (pv 5)) pe_str (nomark _)))))
      (pss_one (ps_ret (pe_and (pe_cmpR op_eq (pv 4) (pe_and (pe_call G4.ok hr1 (by rfl) G4.mg G4.kp G4.bd .nil pass0 (pa_cons (pv 3) pa_nil)) (pe_one (pe_cmpR op_ne (pv 3) pe_str (nomark _)))) (nomark _))
        (pe_one (pe_cmpR op_eq (pe_call G4.ok hr1 (by rfl) G4.mg G4.kp G4.bd .nil pass0 (pa_cons (pv 3) pa_nil)) (pe_chain op_lt op_lt pe_int (pe_callB call_len_str (by rfl) T.len PySem.boot_len (pa_cons (pv 3) pa_nil)) pe_int) (nomark _)))))))))), ?_⟩
    have hbig : 100000 ≤ sizeLine := by decide
    refine ⟨_, rfl, a, 3, n, rfl, hS, (by show n < 1000000; omega), by decide, by decide, fun r H1 r0 r1 b1 S1 => ?_⟩
    obtain ⟨m1, m2, m3⟩ := sp_ok r0 (by omega)
    refine ⟨_, _, rfl, rfl, m1, ?_⟩
    refine ⟨_, rfl, a, 4, n + 1, rfl, S1, (by show n + 1 < 1000000; omega), by decide, by decide, fun z H2 z0 z1 b2 S2 => ?_⟩
    refine ⟨_, rfl, by omega, by omega, for_range (lo := 0) (n := z.toNat) (fun i σ H' => (∃ x v2, σ = [some (.ref a), some (.str x), v2, none, none, none] ∧ x.length ≤ 3 + 33 * i ∧ ∀ c ∈ x.cps.toList, c ∈ sgnT.cps.toList) ∧ But a H H' ∧ Stm H' a (n + 2 + 35 * i))
      ⟨⟨_, _, rfl, by omega, m3⟩, b1.trans b2, S2⟩ ?_ ?_⟩
    · rintro i σ H3 hi ⟨⟨x, v2, rfl, hx, hc⟩, b3, S3⟩
      refine ⟨_, rfl, _, rfl, a, _, rfl, S3, (by show n + 2 + 35 * i + 40 ≤ 1000000; omega), fun y H4 hy b4' S4 => ?_⟩
      have hyl := hy.hi
      refine ⟨_, _, rfl, rfl, by omega, ?_⟩
      refine ⟨_, rfl, a, 4, _, rfl, S4, (by show n + 2 + 35 * i + 34 < 1000000; omega), by decide, by decide, fun u H5 u0 u1 b5 S5 => ?_⟩
      obtain ⟨p1, p2, p3⟩ := sp_ok u0 (by omega)
      refine ⟨_, _, rfl, rfl, p1, _, _, rfl, rfl, ?_, ⟨_, _, rfl, ?_, ?_⟩, (b3.trans b4').trans b5, S5.mono (by omega)⟩
      · rw [Str.length_append]
        omega
      · rw [Str.length_append, Str.length_append]
        omega
      · exact app_in (app_in hc hy.cl.all) p3
    rintro σ H3 ⟨⟨x, v2, rfl, hx, hc⟩, b3, S3⟩
    refine ⟨_, rfl, x, rfl, by omega, fun H4 e4 => ?_⟩
    have hsl := sq_len x
    have hcl := sq_clean hc
    generalize sq x = st at *
    have hne := q0_near hcl (by omega)
    -- the end
    have fin : ∀ (H5 : Hp) (v5 : Option V), Ext H4 H5 → tRet (tAndV (tOp rEq (tVar 4) (tAndV (tCall spText [] E0 (tCons (tVar 3) tNil)) (tOp rNe (tVar 3) (tC (.str tild)))))
        (tOp rEq (tCall spText [] E0 (tCons (tVar 3) tNil)) (tChain (rI0 fun i j => V.bl (decide (i < j))) (rI0 fun i j => V.bl (decide (i < j))) (tC (.int 0)) (tCB (fun xs H Q => ∃ z : Str, xs = [.str z] ∧ z.length ≤ sizeLine ∧ Q (.int z.length) H) (tCons (tVar 3) tNil)) (tC (.int 31)))))
        { nx := fun _ H' => Q .non H', rt := Q } [some (.ref a), some (.str x), v2, some (.str st), some (.bl (q0 st).fits), v5] H5 := by
      intro H5 v5 e5
      refine ⟨_, rfl, _, rfl, st, rfl, hcl, by omega, fun H6 e6 => ⟨lenOk st, rfl, ?_⟩⟩
      have go : ∀ bb : Bool, bb = (q0 st).fits → rEq (V.bl (q0 st).fits) (V.bl bb) H6 (fun v H' => ∃ c, v = .bl c ∧ if c = true then (tOp rEq (tCall spText [] E0 (tCons (tVar 3) tNil)) (tChain (rI0 fun i j => V.bl (decide (i < j))) (rI0 fun i j => V.bl (decide (i < j))) (tC (.int 0)) (tCB (fun xs H Q => ∃ z : Str, xs = [.str z] ∧ z.length ≤ sizeLine ∧ Q (.int z.length) H) (tCons (tVar 3) tNil)) (tC (.int 31))))
          [some (.ref a), some (.str x), v2, some (.str st), some (.bl (q0 st).fits), v5] H' Q else Q (.bl false) H') := by
        rintro bb rfl
        refine ⟨rfl, true, by rw [decide_eq_true rfl], iteT ?_⟩
        refine ⟨_, rfl, st, rfl, hcl, by omega, fun H7 e7 => ?_⟩
        refine ⟨_, rfl, st, rfl, by omega, _, _, rfl, rfl, _, rfl, ?_⟩
        have kk := k H7 ((b3.ext e4).ext ((e5.trans e6).trans e7)) (((S3.ext e4).ext ((e5.trans e6).trans e7)).mono (by omega))
        by_cases h0 : (0 : Int) < (st.length : Nat)
        · rw [decide_eq_true h0]
          refine iteT ⟨_, _, rfl, rfl, rfl, ?_⟩
          show Q (.bl (decide (V.bl (decide (1 ≤ st.length) && decide (st.length ≤ 30)) = V.bl (decide (((st.length : Nat) : Int) < 31))))) H7
          rw [decide_eq_true (by omega : 1 ≤ st.length), Bool.true_and, decide_eq_decide.mpr (by omega : (((st.length : Nat) : Int) < 31) ↔ st.length ≤ 30), decide_eq_true rfl]
          exact kk
        · rw [decide_eq_false h0]
          refine iteF ⟨rfl, ?_⟩
          show Q (.bl (decide (V.bl (decide (1 ≤ st.length) && decide (st.length ≤ 30)) = V.bl false))) H7
          rw [decide_eq_false (by omega : ¬ 1 ≤ st.length), Bool.false_and, decide_eq_true rfl]
          exact kk
      cases hb : lenOk st with
      | false =>
        refine iteF (go false ?_)
        rw [q0_fits, hb]
        rfl
      | true =>
        refine iteT ⟨_, rfl, rfl, go _ ?_⟩
        rw [q0_fits, hb, decide_strV]
        rfl
    refine ⟨_, rfl, by show 2 ≤ sizeLine; decide, fun t H5 nt hH5 ft => ?_⟩
    obtain ⟨o, rfl⟩ := hH5
    have e5 : Ext H4 (upd H4 t o) := Ext.new Ext.rfl' nt _
    intro y dx ny ndx nex
    refine ⟨y, dx, t, q0 st, ?_, upd_same, ft.ext ((Ext.new Ext.rfl' ndx _).trans (Ext.new Ext.rfl' ((upd_ne nex.symm).trans ny) _)), hne, fun hf H6 kp hy => ⟨rfl, ?_⟩, fun hf d H6 x6 hd => ?_⟩
    · rfl
    · obtain ⟨e6, _⟩ := made ny ndx ft (hne.good hf) kp hy
      have := fin H6 none (e5.trans e6)
      rw [hf] at this
      exact this
    · have e6 : Ext H4 H6 := fun b u hb => x6 b u (by
        have h5 := e5 b u hb
        rw [upd_ne (ne_of_none h5 ny), upd_ne (ne_of_none h5 ndx)]
        exact h5)
      refine ⟨true, TBX.ex, fun _ ea hea => ?_, fun z => nomatch z⟩
      refine ⟨_, rfl, rfl, rfl, d, _, _, rfl, hd, rfl, rfl, ?_⟩
      have := fin H6 none e6
      rw [hf] at this
      rw [decide_strV, decide_eq_true rfl]
      exact this
end
end PK
namespace PK
open PySem L2 K8 LamX
/-! ### the law -/
theorem Stm.extN {H H' : Hp} {a : Addr} {n : Nat} (h : Stm H a n) (e : ExtN H H') : Stm H' a n := let ⟨b, cell, m, c, h1, h2⟩ := h; ⟨b, cell, m, c, e _ _ h1 fun ps z => (by cases z), h2⟩
theorem _root_.LamX.Tabs.but {T : List (Addr × Str)} {a : Addr} {n : Nat} {H H' : Hp} (t : Tabs T H) (S : Stm H a n) (b : But a H H') : Tabs T H' := fun p hp => by
  obtain ⟨ps, h1, h2, h3⟩ := t p hp
  obtain ⟨_, _, _, _, hs, _⟩ := S
  refine ⟨ps, b _ _ (ne_of h1 hs (by intro z; cases z)) h1, h2, fun pos cv hc => ?_⟩
  obtain ⟨c, e1, e2⟩ := h3 pos cv hc
  refine ⟨c, e1, b _ _ (ne_of e2 hs ?_) e2⟩
  intro z
  have z' : HO.ext _ = HO.lst _ := z
  cases z'
def spLaw (K : PySem.W.Frag) (Tb : List (Addr × Str)) : Sp := fun vs H Q _ => ∃ (a : Addr) (ns : List Int), vs = [.ref a] ∧ SqL K H a (ns.map V.int) ∧ ns.length ≤ 63 ∧ Tabs Tb H ∧ ∀ H', Q (.bl true) H'
theorem scLaw : FnScope ["_law_script", "_law_k", "_law_cell", "_law_stream_here", "_law_one", "_law_numbers", "_law_rows", "_law_turn"] ["_law_script"] (defScope sLaw) := ⟨rfl, rfl, rfl, by decide +kernel, rfl, by decide +kernel, by decide +kernel⟩
section
variable {P : Program} {w : World} {K : PySem.W.Frag} {mg : Str → Option Value} {base : Heap} {B C : Addr}
theorem ok_law {Tb : List (Addr × Str)} {f f1 f2 f3 f4 f5 f6 f7 f8 : Addr} {fd fd1 fd2 fd3 fd4 fd5 fd6 fd7 fd8 : FuncData} (F : Fun K "law" "law" sLaw f fd) (T : T0 mg) (TC : TQ K mg C) (M : QAll P w K mg base C)
    (G1 : Callee P w K mg base CX0 2 "_law_take" f1 fd1 ["_law_stream_here", "_law_many"] spTake) (G2 : Callee P w K mg base CX0 2 "_law_stream" f2 fd2 ["_law_cell", "_law_k"] spStream)
    (G3 : Callee P w K mg base CX0 5 "_law_parts_by" f3 fd3 ["_law_stream_here"] spPartsBy) (G4 : Callee P w K mg base CX0 5 "_law_of" f4 fd4 ["_law_parts"] (spLawOf C))
    (G5 : Callee P w K mg base CX0 6 "_law_turns_right" f5 fd5 ["_law_one", "_law_first", "_law_second"] (spTurnsR C)) (G6 : Callee P w K mg base CX0 6 "_law_changes_right" f6 fd6 ["_law_stream_here", "_law_one"] (spChangesR C))
    (G7 : Callee P w K mg base CX0 5 "_law_sums_right" f7 fd7 ["_law_rows"] (spSumsR C Tb)) (G8 : Callee P w K mg base CX0 5 "_law_texts_right" f8 fd8 ["_law_stream_here"] spTextsR) : FnOk P w K mg base CX0 7 f fd ["_law_script"] (spLaw K Tb) := by
  obtain ⟨h1, hd1, Mt⟩ := M.turned
  obtain ⟨h8, hd8, Mc, mc, _, ⟨gb, kb⟩, _⟩ := M.changed
  refine F.ok scLaw (fun vs H Q E h => ?_) (fun cdv A outer s H vs Q E hr h => ?_)
  · obtain ⟨a, ns, rfl, _⟩ := h
    rfl
  · obtain ⟨a, ns, rfl, hS, hlen, hT, k⟩ := h
    have hr2 : Room 2 _ := hr.mono (by decide)
    have hr5 : Room 5 _ := hr.mono (by decide)
    refine ⟨_, pss_cons (ps_for PassesOwn.never rfl (pi_enum (by rfl) T.enum (pa_cons (pe_slice sl_list (pe_op op_catL (pv 0) (pe_lst (pa_cons pe_int pa_nil))) po_none (po_some pe_int)) pa_nil)) (pg_tup rfl (pgs_cons (pg_name (i := 1) scLaw.nd rfl (.inl rfl)) (pgs_cons (pg_name (i := 2) scLaw.nd rfl (.inl rfl)) pgs_nil)))
      (pss_cons (ps_set (i := 3) scLaw.nd rfl (Or.inr rfl) (pe_call G2.ok hr2 (by rfl) G2.mg G2.kp G2.bd .nil pass0 (pa_cons (pv 2) (pa_cons (pv 1) pa_nil))))
      (pss_cons (ps_set (i := 4) scLaw.nd rfl (Or.inr rfl) (pe_call G4.ok hr5 (by rfl) G4.mg G4.kp G4.bd .nil pass0 (pa_cons (pe_call G3.ok hr5 (by rfl) G3.mg G3.kp G3.bd .nil pass0 (pa_cons (pv 3) pa_nil)) pa_nil)))
      (pss_cons (ps_set (i := 5) scLaw.nd rfl (Or.inl rfl) (pe_lst (pa_cons (pe_op op_sub (pe_call G1.ok hr2 (by rfl) G1.mg G1.kp G1.bd .nil pass0 (pa_cons (pv 3) (pa_cons pe_int pa_nil))) pe_int) (pa_cons (pe_call G1.ok hr2 (by rfl) G1.mg G1.kp G1.bd .nil pass0 (pa_cons (pv 3) (pa_cons (pe_op op_pow pe_int pe_int) pa_nil))) pa_nil))))
      (pss_cons (ps_if (PW.pt (pw_or (pt_not (pt_val (pe_call G5.ok hr (by rfl) G5.mg G5.kp G5.bd .nil pass0 (pa_cons (pv 4) (pa_cons (pe_ix ix_list (pv 5) pe_int (fun _ _ => rfl)) (pa_cons (pe_ix ix_list (pv 5) pe_int (fun _ _ => rfl)) pa_nil))))))
          (pw_or1 (pt_not (pt_val (pe_call G6.ok hr (by rfl) G6.mg G6.kp G6.bd .nil pass0 (pa_cons (pv 3) (pa_cons (pv 4) pa_nil)))))))) (pss_one (ps_ret pe_bl)) pss_nil)
      (pss_cons (ps_setLc (i := 6) (own := [("_law_turn", 7)]) (g := gName 7) (tt := tYes) rfl scLaw.nd rfl rfl (sw_true rfl rfl rfl (by decide +kernel)) (pi_range1 (by rfl) T.range (pa_cons (pe_call G1.ok hr2 (by rfl) G1.mg G1.kp G1.bd .nil pass0 (pa_cons (pv 3) (pa_cons pe_int pa_nil))) pa_nil))
          (blkOk_by (N := ["_law_script", "_law_k", "_law_cell", "_law_stream_here", "_law_one", "_law_numbers", "_law_rows", "_law_turn"]) (sc := defScope sLaw) (by decide +kernel)) (fun _ _ _ _ _ => pg_name (i := 7) scLaw.nd rfl (Or.inl rfl)) (fun _ _ _ _ _ => pts_nil)
          (fun _ _ _ _ _ => pe_methN0 (pe_meth (pv 4) TC.cl Mt.me Mt.ok hr5 Mt.bd .nil pass0 (pa_cons (pv 7) pa_nil)) TC.cl mc Mc hr5 kb pass0 (pk_cons (pe_op op_add pe_int (pe_call G1.ok hr2 (by rfl) G1.mg G1.kp G1.bd .nil pass0 (pa_cons (pv 3) (pa_cons pe_int pa_nil)))) pk_nil)))
      (pss_cons (ps_set (i := 6) scLaw.nd rfl (Or.inl rfl) (pe_op op_cat (pv 6) (pe_lc (own := [("_law_turn", 7)]) (g := gName 7) (tt := tYes) rfl scLaw.nd (pi_range1 (by rfl) T.range (pa_cons (pe_call G1.ok hr2 (by rfl) G1.mg G1.kp G1.bd .nil pass0 (pa_cons (pv 3) (pa_cons pe_int pa_nil))) pa_nil))
          (blkOk_by (N := ["_law_script", "_law_k", "_law_cell", "_law_stream_here", "_law_one", "_law_numbers", "_law_rows", "_law_turn"]) (sc := defScope sLaw) (by decide +kernel)) (fun _ _ _ _ _ => pg_name (i := 7) scLaw.nd rfl (Or.inl rfl)) (fun _ _ _ _ _ => pts_nil)
          (fun _ _ _ _ _ => pe_call G4.ok hr5 (by rfl) G4.mg G4.kp G4.bd .nil pass0 (pa_cons (pe_call G3.ok hr5 (by rfl) G3.mg G3.kp G3.bd .nil pass0 (pa_cons (pv 3) pa_nil)) pa_nil)))))
      (pss_one (ps_if (PW.pt (pw_or (pt_not (pt_val (pe_call G7.ok hr5 (by rfl) G7.mg G7.kp G7.bd .nil pass0 (pa_cons (pv 6) pa_nil)))) (pw_or (pt_not (pt_val (pe_call G7.ok hr5 (by rfl) G7.mg G7.kp G7.bd .nil pass0 (pa_cons (pe_revL (pv 6)) pa_nil))))
          (pw_or1 (pt_not (pt_val (pe_call G8.ok hr5 (by rfl) G8.mg G8.kp G8.bd .nil pass0 (pa_cons (pv 3) pa_nil)))))))) (pss_one (ps_ret pe_bl)) pss_nil)))))))))
      (pss_one (ps_ret pe_bl)), ?_⟩
    have hbig : 1000 < sizeLine := by decide
    refine ⟨_, rfl, by show 1 ≤ sizeLine; decide, fun z0 nz0 => ?_⟩
    have ez0 : Ext H (upd H z0 (.lst [.int 0])) := Ext.new Ext.rfl' nz0 _
    refine ⟨a, z0, _, _, rfl, rfl, hS.ext ez0, SqL.of upd_same, by rw [List.length_map]; show ns.length + 1 ≤ _; omega, fun p np => ?_⟩
    have e1 := ez0.trans (Ext.new Ext.rfl' np (.lst (ns.map V.int ++ [.int 0])))
    refine ⟨_, rfl, p, _, rfl, SqL.of upd_same, fun D nD => ?_⟩
    have e2 := e1.trans (Ext.new Ext.rfl' nD (.lst (cutV (ns.map V.int ++ [.int 0]) none (some 63))))
    have hD : upd (upd (upd H z0 (.lst [.int 0])) p (.lst (ns.map V.int ++ [.int 0]))) D (.lst (cutV (ns.map V.int ++ [.int 0]) none (some 63))) D = some (.lst (((ns ++ [0]).take 63).map V.int)) := by
      rw [upd_same, show (63 : Int) = ((63 : Nat) : Int) from rfl, cut_take, List.map_take, List.map_append]
      rfl
    refine ⟨D, _, rfl, SqL.of hD, for_it walk_enum (fun i σ H' => (∃ v1 v2 v3 v4 v5 v6, σ = [some (.ref a), v1, v2, v3, v4, v5, v6, none]) ∧ H' D = some (.lst (((ns ++ [0]).take 63).map V.int)) ∧ Tabs Tb H') ⟨⟨_, _, _, _, _, _, rfl⟩, hD, hT.ext e2⟩ (fun i σ H' _ h => SqL.of h.2.1) ?_ ?_⟩
    · rintro i v σ H3 H4 hi ⟨⟨v1, v2, v3, v4, v5, v6, rfl⟩, hD3, T3⟩ ⟨tp, x, y, rfl, ntp, rfl, hx, hy⟩
      cases hx
      have hy : (((ns ++ [0]).take 63).map V.int)[i]? = some y := hy
      rw [List.getElem?_map] at hy
      obtain ⟨cell, hcell, rfl⟩ := Option.map_eq_some_iff.mp hy
      have hi63 : i < 63 := by
        rw [List.length_map, List.length_take] at hi
        omega
      have e4 : Ext H3 (upd H3 tp (.tup [.int (i : Nat), .int cell])) := Ext.new Ext.rfl' ntp _
      refine ⟨tp, _, rfl, SqT.of upd_same, rfl, _, _, rfl, _, _, rfl, rfl, ?_⟩
      show tSeq _ _ _ _ (upd H3 tp (.tup [.int (i : Nat), .int cell]))
      generalize upd H3 tp (.tup [.int (i : Nat), .int cell]) = G at *
      have hDG := e4 _ _ hD3
      have TG := T3.ext e4
      -- the stream
      refine ⟨_, rfl, _, rfl, cell, (i : Nat), rfl, by omega, by omega, fun S H5 nS e5 S5 => ?_⟩
      have hDS : D ≠ S := ne_of_none hDG nS
      have hD5 := e5 _ _ hDG
      have T5 := TG.ext e5
      -- the question
      refine ⟨_, rfl, S, 0, rfl, S5, (by show 0 + 400 ≤ 1000000; decide), fun r t q H6 hr6 ft gq b6 S6 => ?_⟩
      refine ⟨r, t, q, rfl, hr6, ft, gq, fun o H7 e7 qo => ?_⟩
      have hD7 := e7 _ _ (b6 D _ hDS hD5)
      have T7 := (T5.but S5 b6).ext e7
      have S7 := S6.ext e7
      -- the numbers
      refine ⟨_, rfl, S, 99, _, rfl, S7, (by show 0 + 300 < 1000000; decide), by decide, by decide, fun n1 H8 _ _ b8 S8 => ⟨_, _, rfl, rfl, ?_⟩⟩
      refine ⟨_, rfl, _, _, rfl, rfl, ⟨by decide, by decide, by decide⟩, S, _, _, rfl, S8, (by show 0 + 300 + 1 < 1000000; decide), by decide, by decide, fun n2 H9 _ _ b9 S9 => ⟨by show 2 ≤ sizeLine; decide, fun L nL => ?_⟩⟩
      have b79 := b8.trans b9
      have eL : Ext H9 (upd H9 L (.lst [.int (n1 - 50), .int n2])) := Ext.new Ext.rfl' nL _
      have hL : upd H9 L (.lst [.int (n1 - 50), .int n2]) L = some (.lst [.int (n1 - 50), .int n2]) := upd_same
      show gName 5 (.ref L) _ (upd H9 L (.lst [.int (n1 - 50), .int n2])) _
      generalize upd H9 L (.lst [.int (n1 - 50), .int n2]) = H10 at *
      have q10 := (qo.but S7 b79).ext eL
      have hD10 := eL _ _ (b79 D _ hDS hD7)
      have T10 := (T7.but S7 b79).ext eL
      -- turns, changes
      refine ⟨_, rfl, _, rfl, L, _, _, _, rfl, rfl, SqL.of hL, atI_nat (j := 0) rfl, _, rfl, L, _, _, _, rfl, rfl, SqL.of hL, atI_nat (j := 1) rfl, o, q, _, _, rfl, q10, fun H11 e11 => ⟨true, rfl, iteF ?_⟩⟩
      have q11 := q10.ext e11
      have S11 := (S9.ext eL).ext e11
      refine ⟨_, rfl, _, rfl, S, o, q, _, rfl, S11, (by show 0 + 300 + 1 + 1 + 60 ≤ 1000000; decide), q11, fun H12 b12 S12 => ⟨true, rfl, iteF ?_⟩⟩
      have q12 := q11.but S11 b12
      have hD12 := b12 D _ hDS (e11 _ _ hD10)
      have T12 := (T10.ext e11).but S11 b12
      -- rows
      refine ⟨_, rfl, S, 5, _, rfl, S12, (by show 0 + 300 + 1 + 1 + 50 < 1000000; decide), by decide, by decide, fun r1 H13 r10 r11 b13 S13 => ?_⟩
      have S13 : Stm H13 S 400 := S13.mono (by decide)
      have q13 := q12.but S12 b13
      have hD13 := b13 D _ hDS hD12
      have T13 := T12.but S12 b13
      refine ⟨_, rfl, by omega, by omega, fun D1 nD1 => ?_⟩
      have hSD1 := S13.ne nD1
      refine lc_range (lo := 0) (n := r1.toNat) (fun m H' => But S H13 H' ∧ Stm H' S (400 + m) ∧ ∃ ps : List Addr, ps.length = m ∧ (∀ z ∈ ps, ∃ q', QAt C H' z q') ∧ H' D1 = some (.lst (ps.map V.ref)))
        ⟨But.rfl'.new nD1 _, S13.upd_ hSD1 _, [], rfl, by simp, upd_same⟩ ?_ ?_
      · rintro m H14 hm ⟨b14, S14, ps, hpl, hps, hL1⟩
        refine ⟨rfl, yesT ?_⟩
        have q14 := q13.but S13 b14
        obtain ⟨dx0, t0, hp0, _⟩ := q14.ex
        refine ⟨_, rfl, o, dx0, _, rfl, hp0, fl_no q t0 (by decide +kernel), _, rfl, o, q, _, rfl, q14, fun o1 H15 e15 q15 => ?_⟩
        obtain ⟨⟨dx1, t1, hp1, _⟩, g1⟩ := id q15
        have S15 := S14.ext e15
        refine ⟨o1, dx1, _, rfl, hp1, fl_no _ t1 (by decide +kernel), _, rfl, S, 9, _, rfl, S15, (by show 400 + m < 1000000; omega), by decide, by decide, fun u H16 u0 u1 b16 S16 => ⟨_, _, rfl, rfl, rfl, rfl, ?_⟩⟩
        have q16 := q15.but S15 b16
        refine ⟨o1, _, none, some (1 + u), none, none, rfl, q16, chg_toil g1 (by omega) (by omega), fun o2 H17 e17 q17 => ?_⟩
        have hL17 := e17 _ _ (b16 D1 _ hSD1.symm (e15 _ _ hL1))
        refine ⟨_, hL17, by rw [List.length_map]; omega, ((b14.ext e15).trans b16).ext e17 |>.new nD1 _, (S16.ext e17).upd_ hSD1 _, ps ++ [o2], by simp [hpl], fun z hz => ?_, ?_⟩
        · rcases List.mem_append.mp hz with hz | hz
          · obtain ⟨q', hq'⟩ := hps z hz
            exact ⟨q', (((hq'.ext e15).but S15 b16).ext e17).updL hL17 _⟩
          · rw [List.mem_singleton.mp hz]
            exact ⟨_, q17.updL hL17 _⟩
        · rw [upd_same, List.map_append]
          rfl
      rintro H18 ⟨b18, S18, ps, hpl, hps, hL1⟩
      have S18 : Stm H18 S 410 := S18.mono (by omega)
      have hD18 := b18 D _ hDS hD13
      have T18 := T13.but S13 b18
      -- more rows
      refine ⟨_, rfl, _, rfl, S, 3, _, rfl, S18, (by show 410 < 1000000; decide), by decide, by decide, fun r2 H19 r20 r21 b19 S19 => ?_⟩
      have hL19 := b19 D1 _ hSD1.symm hL1
      have hD19 := b19 D _ hDS hD18
      have T19 := T18.but S18 b19
      refine ⟨_, rfl, by omega, by omega, fun D2 nD2 => ?_⟩
      have hSD2 := S19.ne nD2
      refine lc_range (lo := 0) (n := r2.toNat) (fun m H' => But S H19 H' ∧ Stm H' S (411 + 300 * m) ∧ ∃ ps2 : List Addr, ps2.length = m ∧ (∀ z ∈ ps2, ∃ q', QAt C H' z q') ∧ H' D2 = some (.lst (ps2.map V.ref)))
        ⟨But.rfl'.new nD2 _, S19.upd_ hSD2 _, [], rfl, by simp, upd_same⟩ ?_ ?_
      · rintro m H20 hm ⟨b20, S20, ps2, hpl2, hps2, hL2⟩
        refine ⟨rfl, yesT ?_⟩
        refine ⟨_, rfl, S, _, rfl, S20, (by show 411 + 300 * m + 400 ≤ 1000000; omega), fun rr tt qq H21 hrr ftt gg b21 S21 => ?_⟩
        refine ⟨rr, tt, qq, rfl, hrr, ftt, gg, fun o3 H22 e22 q22 => ?_⟩
        have hL22 := e22 _ _ (b21 D2 _ hSD2.symm hL2)
        refine ⟨_, hL22, by rw [List.length_map]; omega, ((b20.trans b21).ext e22).new nD2 _, ((S21.ext e22).upd_ hSD2 _).mono (by omega), ps2 ++ [o3], by simp [hpl2], fun z hz => ?_, ?_⟩
        · rcases List.mem_append.mp hz with hz | hz
          · obtain ⟨q', hq'⟩ := hps2 z hz
            exact ⟨q', ((hq'.but S20 b21).ext e22).updL hL22 _⟩
          · rw [List.mem_singleton.mp hz]
            exact ⟨_, q22.updL hL22 _⟩
        · rw [upd_same, List.map_append]
          rfl
      rintro H23 ⟨b23, S23, ps2, hpl2, hps2, hL2⟩
      have S23 : Stm H23 S 2000 := S23.mono (by omega)
      have hL23 := b23 D1 _ hSD1.symm hL19
      have hD23 := b23 D _ hDS hD19
      have T23 := T19.but S19 b23
      have hps23 : ∀ z ∈ ps ++ ps2, ∃ q', QAt C H23 z q' := fun z hz => by
        rcases List.mem_append.mp hz with hz | hz
        · obtain ⟨q', hq'⟩ := hps z hz
          exact ⟨q', (hq'.but S18 b19).but S19 b23⟩
        · exact hps2 z hz
      have hlen23 : (ps ++ ps2).length ≤ 10 := by
        rw [List.length_append]
        omega
      refine ⟨D1, D2, _, _, rfl, rfl, hL23, hL2, by rw [List.length_map, List.length_map]; omega, fun D3 nD3 => ?_⟩
      have e24 : Ext H23 (upd H23 D3 (.lst (ps.map V.ref ++ ps2.map V.ref))) := Ext.new Ext.rfl' nD3 _
      have hL3 : upd H23 D3 (.lst (ps.map V.ref ++ ps2.map V.ref)) D3 = some (.lst ((ps ++ ps2).map V.ref)) := by rw [upd_same, List.map_append]
      show gName 6 (.ref D3) _ (upd H23 D3 (.lst (ps.map V.ref ++ ps2.map V.ref))) _
      generalize upd H23 D3 (.lst (ps.map V.ref ++ ps2.map V.ref)) = H24 at *
      have hQ : QsAt C H24 D3 (ps ++ ps2) (qof C H23) := ⟨hL3, fun z hz => by
        obtain ⟨q', hq'⟩ := hps23 z hz
        exact (qof_at hq').ext e24, by omega⟩
      -- sums
      refine ⟨_, rfl, D3, ps ++ ps2, qof C H23, rfl, hQ, T23.ext e24, fun H25 e25 T25 => ⟨true, rfl, iteF ?_⟩⟩
      have hQ25 := hQ.extN e25
      refine ⟨_, rfl, D3, _, rfl, SqL.of hQ25.at_, fun D4 nD4 => ?_⟩
      have e26 : Ext H25 (upd H25 D4 (.lst ((ps ++ ps2).map V.ref).reverse)) := Ext.new Ext.rfl' nD4 _
      refine ⟨D4, (ps ++ ps2).reverse, qof C H23, rfl, ⟨by rw [upd_same, List.map_reverse], fun z hz => (hQ25.ext e26).it z (List.mem_reverse.mp hz), by rw [List.length_reverse]; omega⟩, T25.ext e26, fun H27 e27 T27 => ⟨true, rfl, iteF ?_⟩⟩
      have n27 : ExtN H24 H27 := (e25.trans (ExtN.of e26)).trans e27
      have S27 := (S23.ext e24).extN n27
      have hD27 := n27 _ _ (e24 _ _ hD23) fun ps z => by cases z
      -- texts
      refine ⟨_, rfl, S, _, rfl, S27, (by show 2000 + 200 ≤ 1000000; decide), fun H28 b28 S28 => ⟨true, rfl, iteF ?_⟩⟩
      exact ⟨⟨_, _, _, _, _, _, rfl⟩, b28 D _ hDS hD27, T27.but S27 b28⟩
    · rintro σ H9 ⟨⟨v1, v2, v3, v4, v5, v6, rfl⟩, _⟩
      exact k _
end
end PK
namespace PK
open PySem L2 K8 LamX
/-! ### how arguments come to the parameters -/
section
variable {K : PySem.W.Frag} {f : Addr} {fd : FuncData}
abbrev whole_dv : List V := [V.int 0, V.int 9999]
theorem whole_k1 (F : FunD K "is_whole" "is_whole" (defArgs sWhole) (defBody sWhole) (defScope sWhole) whole_dv [] f fd) : ∃ g, KBn K fd ["thing", "least", "most"] 1 ["most"] g (fun vs zs => vs ++ V.int 0 :: zs) := by
  obtain ⟨its, h⟩ := F.kbindsD (ps := ["thing", "least", "most"]) 1 ["most"] (fun us its ws => us ++ (its.take 1 ++ ws)) (by simp) (fun r1 r2 r3 => r1.append ((r2.take 1).append r3)) fun T kV dc pm an cd ct us its ws h1 h2 h3 =>
    match us, its, ws, h1, h2, h3 with | [_], [_, _], [_], _, _, _ => ⟨_, rfl, rfl⟩
  exact ⟨_, h⟩
theorem whole_k2 (F : FunD K "is_whole" "is_whole" (defArgs sWhole) (defBody sWhole) (defScope sWhole) whole_dv [] f fd) : ∃ g, KBn K fd ["thing", "least", "most"] 1 ["least", "most"] g (fun vs zs => vs ++ zs) := by
  obtain ⟨its, h⟩ := F.kbindsD (ps := ["thing", "least", "most"]) 1 ["least", "most"] (fun us its ws => us ++ ws) (by simp) (fun r1 r2 r3 => r1.append r3) fun T kV dc pm an cd ct us its ws h1 h2 h3 =>
    match us, its, ws, h1, h2, h3 with | [_], [_, _], [_, _], _, _, _ => ⟨_, rfl, rfl⟩
  exact ⟨_, h⟩
abbrev init_dv : List V := [V.int 0, V.int 5, V.int 1, V.str ""]
abbrev init_ps : List Str := ["self", "name", "matter", "answers", "right", "toil", "marks", "kin"]
theorem init_k4 (F : FunD K "__init__" "Question.__init__" (defArgs sInit) (defBody sInit) (defScope sInit) init_dv [] f fd) : ∃ g, KBn K fd init_ps 4 ["right", "toil", "marks", "kin"] g (fun vs zs => vs ++ zs) := by
  obtain ⟨its, h⟩ := F.kbindsD (ps := init_ps) 4 ["right", "toil", "marks", "kin"] (fun us its ws => us ++ ws) (by simp) (fun r1 r2 r3 => r1.append r3) fun T kV dc pm an cd ct us its ws h1 h2 h3 =>
    match us, its, ws, h1, h2, h3 with | [_, _, _, _], [_, _, _, _], [_, _, _, _], _, _, _ => ⟨_, rfl, rfl⟩
  exact ⟨_, h⟩
theorem init_b8 (F : FunD K "__init__" "Question.__init__" (defArgs sInit) (defBody sInit) (defScope sInit) init_dv [] f fd) : Binds K fd init_ps [] := by
  obtain ⟨ds, r, h⟩ := F.binds1 (ps := init_ps) 8 4 (by simp) rfl fun T kV dc pm an cd ct us its h1 h2 =>
    match us, its, h1, h2 with | [_, _, _, _, _, _, _, _], [_, _, _, _], _, _ => ⟨_, rfl, rfl⟩
  have r : Vals [] ds := r
  cases r
  exact h
theorem init_b4 (F : FunD K "__init__" "Question.__init__" (defArgs sInit) (defBody sInit) (defScope sInit) init_dv [] f fd) : ∃ ds, Vals [V.int 0, V.int 5, V.int 1, V.str ""] ds ∧ Binds K fd init_ps ds :=
  F.binds1 (ps := init_ps) 4 0 (by simp) rfl fun T kV dc pm an cd ct us its h1 h2 =>
    match us, its, h1, h2 with | [_, _, _, _], [_, _, _, _], _, _ => ⟨_, rfl, rfl⟩
theorem sum_b0 (F : FunD K "toil_sum" "toil_sum" (defArgs sToilSum) (defBody sToilSum) (defScope sToilSum) [V.int 0] [] f fd) : ∃ ds, Vals [V.int 0] ds ∧ Binds K fd ["questions", "start"] ds :=
  F.binds1 (ps := ["questions", "start"]) 1 0 (by simp) rfl fun T kV dc pm an cd ct us its h1 h2 => match us, its, h1, h2 with | [_], [_], _, _ => ⟨_, rfl, rfl⟩
theorem sum_k1 (F : FunD K "toil_sum" "toil_sum" (defArgs sToilSum) (defBody sToilSum) (defScope sToilSum) [V.int 0] [] f fd) : ∃ g, KBn K fd ["questions", "start"] 1 ["start"] g (fun vs zs => vs ++ zs) := by
  obtain ⟨its, h⟩ := F.kbindsD (ps := ["questions", "start"]) 1 ["start"] (fun us its ws => us ++ ws) (by simp) (fun r1 r2 r3 => r1.append r3) fun T kV dc pm an cd ct us its ws h1 h2 h3 =>
    match us, its, ws, h1, h2, h3 with | [_], [_], [_], _, _, _ => ⟨_, rfl, rfl⟩
  exact ⟨_, h⟩
abbrev chg_dv : List V := [V.non, V.non, V.non, V.non]
abbrev chg_ps : List Str := ["self", "right", "toil", "marks", "kin"]
theorem chg_ka (F : FunD K "changed" "Question.changed" (defArgs sChanged) (defBody sChanged) (defScope sChanged) chg_dv [] f fd) : ∃ g, KBn K fd chg_ps 1 ["right", "toil", "marks", "kin"] g (fun vs zs => vs ++ zs) := by
  obtain ⟨its, h⟩ := F.kbindsD (ps := chg_ps) 1 ["right", "toil", "marks", "kin"] (fun us its ws => us ++ ws) (by simp) (fun r1 r2 r3 => r1.append r3) fun T kV dc pm an cd ct us its ws h1 h2 h3 =>
    match us, its, ws, h1, h2, h3 with | [_], [_, _, _, _], [_, _, _, _], _, _, _ => ⟨_, rfl, rfl⟩
  exact ⟨_, h⟩
theorem chg_kb (F : FunD K "changed" "Question.changed" (defArgs sChanged) (defBody sChanged) (defScope sChanged) chg_dv [] f fd) : ∃ g, KBn K fd chg_ps 1 ["toil"] g (fun vs zs => vs ++ (V.non :: (zs ++ [V.non, V.non]))) := by
  obtain ⟨its, h⟩ := F.kbindsD (ps := chg_ps) 1 ["toil"] (fun us its ws => us ++ (its.take 1 ++ (ws ++ its.drop 2))) (by simp) (fun r1 r2 r3 => r1.append ((r2.take 1).append (r3.append (r2.drop 2)))) fun T kV dc pm an cd ct us its ws h1 h2 h3 =>
    match us, its, ws, h1, h2, h3 with | [_], [_, _, _, _], [_], _, _, _ => ⟨_, rfl, rfl⟩
  exact ⟨_, h⟩
theorem chg_kc (F : FunD K "changed" "Question.changed" (defArgs sChanged) (defBody sChanged) (defScope sChanged) chg_dv [] f fd) : ∃ g, KBn K fd chg_ps 1 ["marks"] g (fun vs zs => vs ++ (V.non :: V.non :: (zs ++ [V.non]))) := by
  obtain ⟨its, h⟩ := F.kbindsD (ps := chg_ps) 1 ["marks"] (fun us its ws => us ++ (its.take 2 ++ (ws ++ its.drop 3))) (by simp) (fun r1 r2 r3 => r1.append ((r2.take 2).append (r3.append (r2.drop 3)))) fun T kV dc pm an cd ct us its ws h1 h2 h3 =>
    match us, its, ws, h1, h2, h3 with | [_], [_, _, _, _], [_], _, _, _ => ⟨_, rfl, rfl⟩
  exact ⟨_, h⟩
end
end PK
namespace PK
open PySem L2 K8 LamX
/-! ### what the top has written, and the law from it -/
def HasF (K : PySem.W.Frag) (mg : Str → Option Value) (x : Str) (st : Stmt) : Prop := ∃ f fd, Fun K x x st f fd ∧ mg x = some (.ref f)
def HasM (K : PySem.W.Frag) (C : Addr) (m q : Str) (st : Stmt) : Prop := ∃ f fd, Fun K m q st f fd ∧ Meth K C m f
def HasD (K : PySem.W.Frag) (mg : Str → Option Value) (x : Str) (st : Stmt) (dvs : List V) : Prop := ∃ f fd, FunD K x x (defArgs st) (defBody st) (defScope st) dvs [] f fd ∧ mg x = some (.ref f)
def HasDM (K : PySem.W.Frag) (C : Addr) (m q : Str) (st : Stmt) (dvs : List V) : Prop := ∃ f fd, FunD K m q (defArgs st) (defBody st) (defScope st) dvs [] f fd ∧ Meth K C m f
def HasB (K : PySem.W.Frag) (mg : Str → Option Value) (Pt : Addr) : Prop := ∃ (c f : Addr) (oc kV dc pm ct : Value) (od an : Option Addr) (osl : Array (Option Value)),
  K.lookup f = some ⟨oc, od, .func (PySem.W.fnOf "by_toil" "by_toil" (defArgs sByToil) (defBody sByToil) (defScope sByToil) .none kV dc pm an (.ref c) ct), osl⟩ ∧ PySem.W.codeIn K (.ref c) "by_toil" = true ∧ PySem.W.keepIn K (.ref f) = true ∧ mg "by_toil" = some (.ref f) ∧ PySem.W.codeHdIn K c Pt = true
section
variable {K : PySem.W.Frag} {h : Heap} {mg : Str → Option Value} {x m q : Str} {st : Stmt} {f T c C : Addr} {od an dd : Option Addr} {sl sl2 : Array (Option Value)} {oc kV dc pm cd ct c2 : Value} {its : Array Value} {n : Nat} {dvs : List V}
theorem hasF (X : K.In h) (G : h.Ns mainGlobals mg) (a : PySem.W.nsIn K mainGlobals x = some (some (.ref f))) (l : K.lookup f = some ⟨oc, od, .func (PySem.W.fnOf x x (defArgs st) (defBody st) (defScope st) .none kV dc pm an cd ct), sl⟩)
    (c : PySem.W.codeIn K cd x = true) (k : PySem.W.keepIn K (.ref f) = true) : HasF K mg x st := ⟨f, _, fun_mk l c k, PySem.W.mg_of X G a⟩
theorem hasM (a : PySem.W.findIn K (.ref C) m = some (some (.ref f))) (i : PySem.W.isFn K (.ref f) = true) (l : K.lookup f = some ⟨oc, od, .func (PySem.W.fnOf m q (defArgs st) (defBody st) (defScope st) .none kV dc pm an cd ct), sl⟩)
    (c : PySem.W.codeIn K cd q = true) (k : PySem.W.keepIn K (.ref f) = true) : HasM K C m q st := ⟨f, _, fun_mk l c k, ⟨a, i, k⟩⟩
theorem hasD (X : K.In h) (G : h.Ns mainGlobals mg) (a : PySem.W.nsIn K mainGlobals x = some (some (.ref f))) (l : K.lookup f = some ⟨oc, od, .func (PySem.W.fnOf x x (defArgs st) (defBody st) (defScope st) (.ref T) kV dc pm an cd ct), sl⟩)
    (lT : K.lookup T = some ⟨c2, dd, .seq its n, sl2⟩) (c : PySem.W.codeIn K cd x = true) (k : PySem.W.keepIn K (.ref f) = true) (r : Vals dvs its.toList) (hd : dvs ≠ []) : HasD K mg x st dvs :=
  ⟨f, _, ⟨⟨oc, od, .ref T, kV, dc, pm, an, cd, ct, sl, rfl, l, c, .inr ⟨hd, T, _, its.toList, n, rfl, lT, by simp, r⟩, .inl rfl⟩, k⟩, PySem.W.mg_of X G a⟩
theorem hasDM (a : PySem.W.findIn K (.ref C) m = some (some (.ref f))) (i : PySem.W.isFn K (.ref f) = true) (l : K.lookup f = some ⟨oc, od, .func (PySem.W.fnOf m q (defArgs st) (defBody st) (defScope st) (.ref T) kV dc pm an cd ct), sl⟩)
    (lT : K.lookup T = some ⟨c2, dd, .seq its n, sl2⟩) (c : PySem.W.codeIn K cd q = true) (k : PySem.W.keepIn K (.ref f) = true) (r : Vals dvs its.toList) (hd : dvs ≠ []) : HasDM K C m q st dvs :=
  ⟨f, _, ⟨⟨oc, od, .ref T, kV, dc, pm, an, cd, ct, sl, rfl, l, c, .inr ⟨hd, T, _, its.toList, n, rfl, lT, by simp, r⟩, .inl rfl⟩, k⟩, ⟨a, i, k⟩⟩
theorem hasB {cc Pt : Addr} (X : K.In h) (G : h.Ns mainGlobals mg) (a : PySem.W.nsIn K mainGlobals "by_toil" = some (some (.ref f))) (l : K.lookup f = some ⟨oc, od, .func (PySem.W.fnOf "by_toil" "by_toil" (defArgs sByToil) (defBody sByToil) (defScope sByToil) .none kV dc pm an (.ref cc) ct), sl⟩)
    (c : PySem.W.codeIn K (.ref cc) "by_toil" = true) (k : PySem.W.keepIn K (.ref f) = true) (e : PySem.W.codeHdIn K cc Pt = true) : HasB K mg Pt := ⟨cc, f, oc, kV, dc, pm, ct, od, an, sl, l, c, k, PySem.W.mg_of X G a, e⟩
end
theorem relI (i : Int) (t : Tok) : RelV (.int i) (.int i t) := ⟨t, rfl⟩
theorem relS (x : Str) (t : Tok) : RelV (.str x) (.str x t) := ⟨t, rfl⟩
theorem relN : RelV .non .none := rfl
/-- what is asked of the class Question, besides its methods -/
structure QFacts (K : PySem.W.Frag) (C : Addr) : Prop where
  mks : PySem.W.makesIn K C = true
  kp : PySem.W.keepIn K (.ref C) = true
  ne : PySem.W.findIn K (.ref C) "__ne__" = some (some (.builtin "object.__ne__"))
structure AllFacts (K : PySem.W.Frag) (mg : Str → Option Value) (C B Pt : Addr) : Prop where
  t0 : T0 mg
  tq : TQ K mg C
  qf : QFacts K C
  tb : ∃ fI fd, Fun K "__init__" "BadQuestion.__init__" sBadI fI fd ∧ TB K mg B fI
  tx : TX K mg B
  whole : HasD K mg "is_whole" sWhole whole_dv
  number : HasF K mg "is_number" sNumber
  name : HasF K mg "is_name" sName
  text : HasF K mg "is_text" sText
  squeezed : HasF K mg "squeezed" sSqueezed
  answers : HasF K mg "are_answers" sAnswers
  isof : HasF K mg "is_of" sOf
  init : HasDM K C "__init__" "Question.__init__" sInit init_dv
  parts : HasM K C "parts" "Question.parts" sParts
  eq : HasM K C "__eq__" "Question.__eq__" sEq
  len : HasM K C "__len__" "Question.__len__" sLen
  repr : HasM K C "__repr__" "Question.__repr__" sRepr
  str : HasM K C "__str__" "Question.__str__" sStr
  answer : HasM K C "answer" "Question.answer" sAnswer
  turned : HasM K C "turned" "Question.turned" sTurned
  changed : HasDM K C "changed" "Question.changed" sChanged chg_dv
  iskin : HasM K C "is_kin" "Question.is_kin" sIsKin
  needq : HasF K mg "need_question" sNeedQ
  needqs : HasF K mg "need_questions" sNeedQs
  bytoil : HasB K mg Pt
  toilsum : HasD K mg "toil_sum" sToilSum [V.int 0]
  mixed : HasF K mg "_law_mixed" sMixed
  stream : HasF K mg "_law_stream" sStream
  take : HasF K mg "_law_take" sTake
  nameby : HasF K mg "_law_name_by" sNameBy
  textby : HasF K mg "_law_text_by" sTextBy
  answersby : HasF K mg "_law_answers_by" sAnswersBy
  partsby : HasF K mg "_law_parts_by" sPartsBy
  lawof : HasF K mg "_law_of" sLawOf
  turnsr : HasF K mg "_law_turns_right" sTurnsR
  changesr : HasF K mg "_law_changes_right" sChangesR
  sumsr : HasF K mg "_law_sums_right" sSumsR
  textsr : HasF K mg "_law_texts_right" sTextsR
  law : HasF K mg "law" sLaw
theorem law_at {l : PySem.W.OpenLaw} {w : World} {K : PySem.W.Frag} {h : Heap} {mg : Str → Option Value} {fa C B Pt : Addr} (A : AllFacts K mg C B Pt) (KX : K.In h) (hmg : mg "law" = some (.ref fa)) (hT : h.get? Pt = some { cls := .none, data := .fields #[] }) (nT : K.lookup Pt = none) :
    LawAtS l w K CX0 8 63 "_law_script" mg fa h := by
  obtain ⟨fL, fdL, FL, mL⟩ := A.law
  have e := hmg.symm.trans mL
  cases e
  obtain ⟨c, fB, oc, kV, dc, pm, ct, od, an, osl, lB, cB, kB, mB, hB⟩ := A.bytoil
  refine ⟨fdL, [(c, Pt)], spLaw K [(Pt, "by_toil.<locals>.<lambda>")], fun p hp => ?_, fun p hp => ?_, fun p hp => ?_, ?_, fun H a ns hl _ hH hS => ⟨a, ns, rfl, hS, hl, fun p hp => ?_, fun _ => rfl⟩, fun base KB GB hTB => ?_⟩
  · rw [List.mem_singleton.mp hp]
    exact hT
  · rw [List.mem_singleton.mp hp]
    exact nT
  · rw [List.mem_singleton.mp hp]
    exact PySem.W.codeHd_of_K KX hB
  · obtain ⟨oc, od, kV, doc, pm, an, cdv, ct, osl, rfl, lk, hcd⟩ := FL.ex
    exact fun s u => .of_eq rfl
  · rw [List.mem_singleton.mp hp]
    exact TabS.nil (hH (c, Pt) (List.mem_singleton.mpr rfl))
  obtain ⟨fNu, fdNu, FNu, mNu⟩ := A.number
  have cNu : Callee l.prog w K mg base CX0 1 "is_number" fNu fdNu ["thing"] spNumber := ⟨ok_number FNu A.t0, mNu, FNu.kp, FNu.binds fun _ _ _ _ _ _ us hl => match us, hl with | [_], _ => rfl⟩
  obtain ⟨fNa, fdNa, FNa, mNa⟩ := A.name
  have cNa : Callee l.prog w K mg base CX0 1 "is_name" fNa fdNa ["thing"] spName := ⟨ok_name FNa A.t0, mNa, FNa.kp, FNa.binds fun _ _ _ _ _ _ us hl => match us, hl with | [_], _ => rfl⟩
  obtain ⟨fTe, fdTe, FTe, mTe⟩ := A.text
  have cTe : Callee l.prog w K mg base CX0 1 "is_text" fTe fdTe ["thing"] spText := ⟨ok_text FTe A.t0, mTe, FTe.kp, FTe.binds fun _ _ _ _ _ _ us hl => match us, hl with | [_], _ => rfl⟩
  obtain ⟨fSq, fdSq, FSq, mSq⟩ := A.squeezed
  have cSq : Callee l.prog w K mg base CX0 1 "squeezed" fSq fdSq ["text"] spSq := ⟨ok_sq FSq A.t0, mSq, FSq.kp, FSq.binds fun _ _ _ _ _ _ us hl => match us, hl with | [_], _ => rfl⟩
  obtain ⟨fAn, fdAn, FAn, mAn⟩ := A.answers
  have cAn : Callee l.prog w K mg base CX0 2 "are_answers" fAn fdAn ["thing"] spAns := ⟨ok_answers FAn A.t0 cTe, mAn, FAn.kp, FAn.binds fun _ _ _ _ _ _ us hl => match us, hl with | [_], _ => rfl⟩
  obtain ⟨fOf, fdOf, FOf, mOf⟩ := A.isof
  have cOf : Callee l.prog w K mg base CX0 2 "is_of" fOf fdOf ["kin"] spOf := ⟨ok_of FOf A.t0 cNa, mOf, FOf.kp, FOf.binds fun _ _ _ _ _ _ us hl => match us, hl with | [_], _ => rfl⟩
  obtain ⟨fWh, fdWh, FWh, mWh⟩ := A.whole
  have cWh : WCallee l.prog w K mg base fWh fdWh := ⟨ok_whole FWh A.t0, mWh, FWh.kp, whole_k1 FWh, whole_k2 FWh⟩
  obtain ⟨fBI, fdBI, FBI, TBB⟩ := A.tb
  have gBI := ok_bad (P := l.prog) (w := w) (base := base) FBI TBB
  have bBI : Binds K fdBI ["self", "part"] [] := FBI.binds fun _ _ _ _ _ _ us hl => match us, hl with | [_, _], _ => rfl
  obtain ⟨fIn, fdIn, FIn, mIn⟩ := A.init
  have gIn := ok_init (P := l.prog) (w := w) (base := base) (fX := 0) (fd5 := fdBI) FIn A.t0 A.tq TBB cNa cAn cWh cOf gBI bBI
  have qm : QMk l.prog w K mg base C B fIn fdIn := ⟨gIn, ⟨A.qf.mks, mIn.at_, mIn.fn, A.qf.kp⟩, init_k4 FIn⟩
  have ql : QMkL l.prog w K mg base C B fIn fdIn := ⟨qm, init_b8 FIn, init_b4 FIn⟩
  obtain ⟨fPa, fdPa, FPa, mPa⟩ := A.parts
  have cPa : MCal l.prog w K mg base CX0 1 C "parts" fPa fdPa ["self"] (spParts C) := ⟨ok_parts FPa A.tq, mPa, FPa.binds fun _ _ _ _ _ _ us hl => match us, hl with | [_], _ => rfl⟩
  obtain ⟨fEq, fdEq, FEq, mEq⟩ := A.eq
  have gEq := ok_eq (P := l.prog) (w := w) (base := base) FEq A.t0 A.tq cPa
  have bEq : Binds K fdEq ["self", "other"] [] := FEq.binds fun _ _ _ _ _ _ us hl => match us, hl with | [_, _], _ => rfl
  obtain ⟨fLe, fdLe, FLe, mLe⟩ := A.len
  have cLe : SCal l.prog w K mg base C "__len__" fLe fdLe (spLen C) := ⟨ok_len FLe A.t0 A.tq, mLe.at_, mLe.fn, FLe.binds fun _ _ _ _ _ _ us hl => match us, hl with | [_], _ => rfl⟩
  obtain ⟨fRe, fdRe, FRe, mRe⟩ := A.repr
  have cRe : SCal l.prog w K mg base C "__repr__" fRe fdRe (spRepr C) := ⟨ok_repr FRe A.tq, mRe.at_, mRe.fn, FRe.binds fun _ _ _ _ _ _ us hl => match us, hl with | [_], _ => rfl⟩
  obtain ⟨fSt, fdSt, FSt, mSt⟩ := A.str
  have cSt : SCal l.prog w K mg base C "__str__" fSt fdSt (spStr C) := ⟨ok_str_ FSt A.tq, mSt.at_, mSt.fn, FSt.binds fun _ _ _ _ _ _ us hl => match us, hl with | [_], _ => rfl⟩
  obtain ⟨fAw, fdAw, FAw, mAw⟩ := A.answer
  have cAw : MCal l.prog w K mg base CX0 1 C "answer" fAw fdAw ["self"] (spAnswer C) := ⟨ok_answer FAw A.tq, mAw, FAw.binds fun _ _ _ _ _ _ us hl => match us, hl with | [_], _ => rfl⟩
  obtain ⟨fTu, fdTu, FTu, mTu⟩ := A.turned
  have cTu : MCal l.prog w K mg base CX0 5 C "turned" fTu fdTu ["self", "by"] (spTurned C) := ⟨ok_turned FTu A.t0 A.tq cNu qm, mTu, FTu.binds fun _ _ _ _ _ _ us hl => match us, hl with | [_, _], _ => rfl⟩
  obtain ⟨fNq, fdNq, FNq, mNq⟩ := A.needq
  have cNq : Callee l.prog w K mg base CX0 1 "need_question" fNq fdNq ["thing"] (spNeedQ C) := ⟨ok_needq FNq A.t0 A.tq, mNq, FNq.kp, FNq.binds fun _ _ _ _ _ _ us hl => match us, hl with | [_], _ => rfl⟩
  obtain ⟨fKi, fdKi, FKi, mKi⟩ := A.iskin
  have cKi : MCal l.prog w K mg base CX0 2 C "is_kin" fKi fdKi ["self", "other"] (spIsKin C) := ⟨ok_iskin FKi A.tq cNq, mKi, FKi.binds fun _ _ _ _ _ _ us hl => match us, hl with | [_, _], _ => rfl⟩
  obtain ⟨fNs, fdNs, FNs, mNs⟩ := A.needqs
  have cNs : Callee l.prog w K mg base CX0 2 "need_questions" fNs fdNs ["thing"] (spNeedQs C) := ⟨ok_needqs FNs A.t0 cNq, mNs, FNs.kp, FNs.binds fun _ _ _ _ _ _ us hl => match us, hl with | [_], _ => rfl⟩
  obtain ⟨fCh, fdCh, FCh, mCh⟩ := A.changed
  have gCh := ok_changed (P := l.prog) (w := w) (base := base) FCh A.tq qm
  have qa : QAll l.prog w K mg base C := ⟨⟨_, _, cTu⟩, ⟨_, _, cAw⟩, ⟨_, _, cKi⟩, ⟨_, _, gEq, ⟨mEq.at_, mEq.fn, A.qf.ne, A.tq.obj⟩, bEq⟩, ⟨_, _, cLe⟩, ⟨_, _, cRe⟩, ⟨_, _, cSt⟩, ⟨_, _, gCh, mCh, chg_ka FCh, chg_kb FCh, chg_kc FCh⟩⟩
  have tba : TabB base mg c Pt := hTB (c, Pt) (List.mem_singleton.mpr rfl)
  have cBy : Callee l.prog w K mg base CX0 4 "by_toil" fB _ ["questions"] (spByToil C [(Pt, "by_toil.<locals>.<lambda>")]) := ⟨ok_bytoil lB cB A.t0 A.tq tba cNs, mB, kB, (fun_mk (st := sByToil) lB cB kB).binds fun _ _ _ _ _ _ us hl => match us, hl with | [_], _ => rfl⟩
  obtain ⟨fTS, fdTS, FTS, mTS⟩ := A.toilsum
  have cTS : SumCal l.prog w K mg base C fTS fdTS := ⟨ok_toilsum FTS A.t0 A.tq cNs, mTS, FTS.kp, sum_b0 FTS, sum_k1 FTS⟩
  obtain ⟨fMi, fdMi, FMi, mMi⟩ := A.mixed
  have cMi : Callee l.prog w K mg base CX0 1 "_law_mixed" fMi fdMi ["_law_number", "_law_k"] spMixed := ⟨ok_mixed FMi, mMi, FMi.kp, FMi.binds fun _ _ _ _ _ _ us hl => match us, hl with | [_, _], _ => rfl⟩
  obtain ⟨fSr, fdSr, FSr, mSr⟩ := A.stream
  have cSr : Callee l.prog w K mg base CX0 2 "_law_stream" fSr fdSr ["_law_cell", "_law_k"] spStream := ⟨ok_stream FSr cMi, mSr, FSr.kp, FSr.binds fun _ _ _ _ _ _ us hl => match us, hl with | [_, _], _ => rfl⟩
  obtain ⟨fTa, fdTa, FTa, mTa⟩ := A.take
  have cTa : Callee l.prog w K mg base CX0 2 "_law_take" fTa fdTa ["_law_stream_here", "_law_many"] spTake := ⟨ok_take FTa cMi, mTa, FTa.kp, FTa.binds fun _ _ _ _ _ _ us hl => match us, hl with | [_, _], _ => rfl⟩
  obtain ⟨fNb, fdNb, FNb, mNb⟩ := A.nameby
  have cNb : Callee l.prog w K mg base CX0 3 "_law_name_by" fNb fdNb ["_law_stream_here"] spNameBy := ⟨ok_nameby FNb A.t0 cTa, mNb, FNb.kp, FNb.binds fun _ _ _ _ _ _ us hl => match us, hl with | [_], _ => rfl⟩
  obtain ⟨fTb, fdTb, FTb, mTb⟩ := A.textby
  have cTb : Callee l.prog w K mg base CX0 3 "_law_text_by" fTb fdTb ["_law_stream_here"] spTextBy := ⟨ok_textby FTb A.t0 cTa, mTb, FTb.kp, FTb.binds fun _ _ _ _ _ _ us hl => match us, hl with | [_], _ => rfl⟩
  obtain ⟨fAb, fdAb, FAb, mAb⟩ := A.answersby
  have cAb : Callee l.prog w K mg base CX0 4 "_law_answers_by" fAb fdAb ["_law_stream_here"] spAnswersBy := ⟨ok_answersby FAb A.t0 cTa cTb, mAb, FAb.kp, FAb.binds fun _ _ _ _ _ _ us hl => match us, hl with | [_], _ => rfl⟩
  obtain ⟨fPb, fdPb, FPb, mPb⟩ := A.partsby
  have cPb : Callee l.prog w K mg base CX0 5 "_law_parts_by" fPb fdPb ["_law_stream_here"] spPartsBy := ⟨ok_partsby FPb A.t0 cTa cNb cAb, mPb, FPb.kp, FPb.binds fun _ _ _ _ _ _ us hl => match us, hl with | [_], _ => rfl⟩
  obtain ⟨fLo, fdLo, FLo, mLo⟩ := A.lawof
  have cLo : Callee l.prog w K mg base CX0 5 "_law_of" fLo fdLo ["_law_parts"] (spLawOf C) := ⟨ok_lawof FLo A.tq ql, mLo, FLo.kp, FLo.binds fun _ _ _ _ _ _ us hl => match us, hl with | [_], _ => rfl⟩
  obtain ⟨fTr, fdTr, FTr, mTr⟩ := A.turnsr
  have cTr : Callee l.prog w K mg base CX0 6 "_law_turns_right" fTr fdTr ["_law_one", "_law_first", "_law_second"] (spTurnsR C) := ⟨ok_turnsr FTr A.t0 A.tq qa, mTr, FTr.kp, FTr.binds fun _ _ _ _ _ _ us hl => match us, hl with | [_, _, _], _ => rfl⟩
  obtain ⟨fCr, fdCr, FCr, mCr⟩ := A.changesr
  have cCr : Callee l.prog w K mg base CX0 6 "_law_changes_right" fCr fdCr ["_law_stream_here", "_law_one"] (spChangesR C) := ⟨ok_changesr FCr A.t0 A.tq qa cTa cNb, mCr, FCr.kp, FCr.binds fun _ _ _ _ _ _ us hl => match us, hl with | [_, _], _ => rfl⟩
  obtain ⟨fSu, fdSu, FSu, mSu⟩ := A.sumsr
  have cSu : Callee l.prog w K mg base CX0 5 "_law_sums_right" fSu fdSu ["_law_rows"] (spSumsR C [(Pt, "by_toil.<locals>.<lambda>")]) := ⟨ok_sumsr FSu A.t0 A.tq qa cBy cTS, mSu, FSu.kp, FSu.binds fun _ _ _ _ _ _ us hl => match us, hl with | [_], _ => rfl⟩
  obtain ⟨fTx, fdTx, FTx, mTx⟩ := A.textsr
  have cTx : Callee l.prog w K mg base CX0 5 "_law_texts_right" fTx fdTx ["_law_stream_here"] spTextsR := ⟨ok_textsr FTx A.t0 A.tq A.tx cTa cTb cSq cTe ql, mTx, FTx.kp, FTx.binds fun _ _ _ _ _ _ us hl => match us, hl with | [_], _ => rfl⟩
  exact (ok_law FL A.t0 A.tq qa cTa cSr cPb cLo cTr cCr cSu cTx).mono (by decide)
end PK
namespace PK
open PySem L2 K8 LamX
theorem noAttr {K : PySem.W.Frag} {C : Addr} {x : Str} (h : PySem.W.findIn K (.ref C) x = some none) : NoAttr K C x := h
theorem kit_self {K : PySem.W.Frag} {C : Addr} : PySem.W.kitOne K (.ref C) (.ref C) = some true := by
  unfold PySem.W.kitOne
  rw [if_pos (by simp)]
theorem exm_self {K : PySem.W.Frag} {B : Addr} (h : PySem.W.subIn K (.ref B) (.type "BaseException") = some true) (c : PySem.W.kitCls K (.ref B) (.ref B) = some true) : PySem.W.exmOne K (.ref B) (.ref B) = some true := by
  unfold PySem.W.exmOne
  rw [h, if_pos (by decide)]
  exact c
theorem hasTB {K : PySem.W.Frag} {h : Heap} {mg : Str → Option Value} {f B : Addr} {od an : Option Addr} {sl : Array (Option Value)} {oc kV dc pm cd ct : Value} (X : K.In h) (G : h.Ns mainGlobals mg)
    (a : PySem.W.findIn K (.ref B) "__init__" = some (some (.ref f))) (l : K.lookup f = some ⟨oc, od, .func (PySem.W.fnOf "__init__" "BadQuestion.__init__" (defArgs sBadI) (defBody sBadI) (defScope sBadI) .none kV dc pm an cd ct), sl⟩)
    (c : PySem.W.codeIn K cd "BadQuestion.__init__" = true) (k : PySem.W.keepIn K (.ref f) = true) (oex : OexC K B) (tI : PySem.W.typeIn K (.ref f) = some (.type "function")) (pa : PySem.W.findIn K (.ref B) "part" = some none)
    (gB : PySem.W.nsIn K mainGlobals "BadQuestion" = some (some (.ref B))) (ve : PySem.W.nsIn K mainGlobals "ValueError" = some none) (vV : PySem.W.findCls K (.type "ValueError") (.type "type") "__init__" = some (.val (.builtin "ValueError.__init__"))) :
    ∃ fI fd, Fun K "__init__" "BadQuestion.__init__" sBadI fI fd ∧ TB K mg B fI :=
  ⟨f, _, fun_mk l c k, ⟨oex, a, tI, pa, PySem.W.mg_of X G gB, PySem.W.mg_none_of X G ve, vV⟩⟩
end PK
open PySem PySem.W PyProof.Rows L2 PK K8 in
set_option maxHeartbeats 0 in
theorem PySem.Challenge.cw_paperkin_k08_whole_round_and_back_holds : PySem.Challenge.rw_paperkin_k08_whole_round_and_back.Holds := by
  w_on; o_law; k_head; (case hw => w_witness2)
  k_fill
  refine LamX.walk_ofTs (n := 63) (k := 8) (x := "_law_script") (CX := fun _ => CX0) rfl (by decide) rfl ⟨rfl, by decide, by decide⟩ (fun w h Y => PySem.W.km_in_of Y) ?F (fun _ _ _ _ _ h => h)
  case F =>
    intro w mg fa h Y KX G hmg
    refine law_at (C := 198) (B := 38) (Pt := 218) ?allF KX hmg (PySem.W.km_tabs_of Y 218 (by simp)) ?noTab
    case noTab => rfl
    case allF =>
      refine ⟨?t0, ?tq, ?qf, ?tb, ?tx, ?whole, ?number, ?name, ?text, ?squeezed, ?answers, ?isof, ?init, ?parts, ?eq, ?len, ?repr, ?str, ?answer, ?turned, ?changed, ?iskin, ?needq, ?needqs, ?bytoil, ?toilsum, ?mixed, ?stream, ?take, ?nameby, ?textby, ?answersby, ?partsby, ?lawof, ?turnsr, ?changesr, ?sumsr, ?textsr, ?law⟩
      case t0 => exact ⟨PySem.W.mg_none_of KX G (by k_is), PySem.W.mg_none_of KX G (by k_is), PySem.W.mg_none_of KX G (by k_is), PySem.W.mg_none_of KX G (by k_is), PySem.W.mg_none_of KX G (by k_is), PySem.W.mg_none_of KX G (by k_is), PySem.W.mg_none_of KX G (by k_is), PySem.W.mg_none_of KX G (by k_is), PySem.W.mg_none_of KX G (by k_is), PySem.W.mg_none_of KX G (by k_is), PySem.W.mg_none_of KX G (by k_is), PySem.W.mg_none_of KX G (by k_is), PySem.W.mg_none_of KX G (by k_is), ⟨_, PySem.W.mg_of KX G (by k_is)⟩, ⟨_, PySem.W.mg_of KX G (by k_is)⟩, ⟨_, PySem.W.mg_of KX G (by k_is)⟩, ⟨_, PySem.W.mg_of KX G (by k_is)⟩, ⟨_, PySem.W.mg_of KX G (by k_is)⟩, ⟨_, PySem.W.mg_of KX G (by k_is)⟩, ⟨_, PySem.W.mg_of KX G (by k_is)⟩⟩
      case tq => exact ⟨⟨by k_is, by k_is, by k_is, by k_is⟩, noAttr (by k_is), noAttr (by k_is), noAttr (by k_is), noAttr (by k_is), noAttr (by k_is), noAttr (by k_is), noAttr (by k_is), PySem.W.mg_of KX G (by k_is), by k_is, by k_is, by k_is, by k_is, kit_self⟩
      case qf => exact ⟨by k_is, by k_is, by k_is⟩
      case tb => exact hasTB KX G (by k_is) (by k_is) (by k_is) (by k_is) ⟨⟨_, _, _, _, _, _, _, _, _, _, _, _, _, _, _, by k_is, by decide +kernel⟩, by k_is, by k_is, by k_is, by k_is⟩ (by k_is) (by k_is) (by k_is) (by k_is) (by k_is)
      case tx => exact ⟨⟨by k_is, by k_is, by k_is, by k_is⟩, by k_is, exm_self (by k_is) (by rfl), PySem.W.mg_of KX G (by k_is)⟩
      case whole => exact hasD (st := sWhole) KX G (by k_is) (by k_is) (by k_is) (by k_is) (by k_is) (by exact .cons (relI _ _) (.cons (relI _ _) .nil)) (by simp)
      case toilsum => exact hasD (st := sToilSum) KX G (by k_is) (by k_is) (by k_is) (by k_is) (by k_is) (by exact .cons (relI _ _) .nil) (by simp)
      case init => exact hasDM (st := sInit) (by k_is) (by k_is) (by k_is) (by k_is) (by k_is) (by k_is) (by exact .cons (relI _ _) (.cons (relI _ _) (.cons (relI _ _) (.cons (relS _ _) .nil)))) (by simp)
      case changed => exact hasDM (st := sChanged) (by k_is) (by k_is) (by k_is) (by k_is) (by k_is) (by k_is) (by exact .cons relN (.cons relN (.cons relN (.cons relN .nil)))) (by simp)
      case number => exact hasF (st := sNumber) KX G (by k_is) (by k_is) (by k_is) (by k_is)
      case name => exact hasF (st := sName) KX G (by k_is) (by k_is) (by k_is) (by k_is)
      case text => exact hasF (st := sText) KX G (by k_is) (by k_is) (by k_is) (by k_is)
      case squeezed => exact hasF (st := sSqueezed) KX G (by k_is) (by k_is) (by k_is) (by k_is)
      case answers => exact hasF (st := sAnswers) KX G (by k_is) (by k_is) (by k_is) (by k_is)
      case isof => exact hasF (st := sOf) KX G (by k_is) (by k_is) (by k_is) (by k_is)
      case needq => exact hasF (st := sNeedQ) KX G (by k_is) (by k_is) (by k_is) (by k_is)
      case needqs => exact hasF (st := sNeedQs) KX G (by k_is) (by k_is) (by k_is) (by k_is)
      case mixed => exact hasF (st := sMixed) KX G (by k_is) (by k_is) (by k_is) (by k_is)
      case stream => exact hasF (st := sStream) KX G (by k_is) (by k_is) (by k_is) (by k_is)
      case take => exact hasF (st := sTake) KX G (by k_is) (by k_is) (by k_is) (by k_is)
      case nameby => exact hasF (st := sNameBy) KX G (by k_is) (by k_is) (by k_is) (by k_is)
      case textby => exact hasF (st := sTextBy) KX G (by k_is) (by k_is) (by k_is) (by k_is)
      case answersby => exact hasF (st := sAnswersBy) KX G (by k_is) (by k_is) (by k_is) (by k_is)
      case partsby => exact hasF (st := sPartsBy) KX G (by k_is) (by k_is) (by k_is) (by k_is)
      case lawof => exact hasF (st := sLawOf) KX G (by k_is) (by k_is) (by k_is) (by k_is)
      case turnsr => exact hasF (st := sTurnsR) KX G (by k_is) (by k_is) (by k_is) (by k_is)
      case changesr => exact hasF (st := sChangesR) KX G (by k_is) (by k_is) (by k_is) (by k_is)
      case sumsr => exact hasF (st := sSumsR) KX G (by k_is) (by k_is) (by k_is) (by k_is)
      case textsr => exact hasF (st := sTextsR) KX G (by k_is) (by k_is) (by k_is) (by k_is)
      case law => exact hasF (st := sLaw) KX G (by k_is) (by k_is) (by k_is) (by k_is)
      case parts => exact hasM (st := sParts) (by k_is) (by k_is) (by k_is) (by k_is) (by k_is)
      case eq => exact hasM (st := sEq) (by k_is) (by k_is) (by k_is) (by k_is) (by k_is)
      case len => exact hasM (st := sLen) (by k_is) (by k_is) (by k_is) (by k_is) (by k_is)
      case repr => exact hasM (st := sRepr) (by k_is) (by k_is) (by k_is) (by k_is) (by k_is)
      case str => exact hasM (st := sStr) (by k_is) (by k_is) (by k_is) (by k_is) (by k_is)
      case answer => exact hasM (st := sAnswer) (by k_is) (by k_is) (by k_is) (by k_is) (by k_is)
      case turned => exact hasM (st := sTurned) (by k_is) (by k_is) (by k_is) (by k_is) (by k_is)
      case iskin => exact hasM (st := sIsKin) (by k_is) (by k_is) (by k_is) (by k_is) (by k_is)
      case bytoil => exact hasB KX G (by k_is) (by k_is) (by k_is) (by k_is) (by rfl)
